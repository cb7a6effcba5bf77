import PyProof.Rows.All
import Wide.All
import OpenK.AllK
import Wide.FinOn
import PySem.Challenge.RW_middlegauges_k09_forced_bounds
import HandS.ForMost
import HandS.ForExc
import HandS.HeadHook1
import HandS.HeadHook2
import HandS.TupAny
import HandS.TupMul
import HandS.Wide
import HandS.Deep
import HandS.Style
import HandS.IsInst
import HandS.Conv
import PyProof.P3In
import HandS.Defaults
import HandS.HeadEnd
import HandS.List
import PyProof.ReprText
import PyProof.ReprRoads
import PyProof.StrLawsRepr
import PyProof.Rows.StrDigitsNeg
import PyProof.Rows.StrJoinMade
import HandS.Exc
import HandS.ExcOwn
import PyProof.ExcBaseAll.ValueError
import HandS.Iter
import PyProof.EnumMake
import PyProof.Draws
import KE.GoesMore
import KE.DataCmp
import KE.KStateDown
import HandS.TryOnly
import HandS.SetFor
import HandS.More
import PyProof.Rows.RuleDivmod
import HandS.Dict
import HandS.Small
import HandS.TupSets
import KE.KSortTupG
import HandS.Head0
import HandS.Head1
import HandS.Head2
set_option Elab.async false
set_option linter.all false
set_option maxRecDepth 100000
set_option maxHeartbeats 8000000
namespace Vx
open PySem PySem.Spec PyProof.Rows L2

/-! ### plain data -/
inductive D where
  | non | bl (b : Bool) | int (i : Int) | str (x : Str) | tup (ds : List D) | lst (ds : List D) | ob (a : Addr) | rc (c : Option Str) (ks : List Str) (ds : List D)

/-- what a slot holds: data that stands still; an own list; a caller's list, lent to be changed; one lent to be read -/
inductive SV where
  | sh (d : D) | ow (ds : List D) | mu (ds : List D) | bo (ds : List D) | dc (a : Addr) (kvs : List (List L2.Key × D))
abbrev Env := List (Option SV)
def SV.fz : SV → D
  | .sh d => d
  | .ow ds => .lst ds
  | .mu ds => .lst ds
  | .bo ds => .lst ds
  | .dc a _ => .ob a

abbrev Own := Addr → Prop
section
variable (K : PySem.W.Frag) (O : Own) (H : Hp)
def KL (a : Addr) (xs : List V) : Prop := ∃ (o : Obj) (its : Array Value) (n : Nat), K.lookup a = some o ∧ o.cls = .type "list" ∧ o.dict = none ∧ o.data = .seq its n ∧ its.size ≤ sizeLine ∧ Vals xs its.toList
def KT (a : Addr) (xs : List V) : Prop := ∃ (o : Obj) (its : Array Value) (n : Nat), K.lookup a = some o ∧ o.cls = .type "tuple" ∧ o.data = .seq its n ∧ its.size ≤ sizeLine ∧ Vals xs its.toList
/-- a list, a tuple that stands still -/
def OkL (a : Addr) (xs : List V) : Prop := H a = some (.lst xs) ∧ ¬ O a
def OkT (a : Addr) (xs : List V) : Prop := (Rd H a (.tup xs) ∧ ¬ O a) ∨ KT K a xs
/-- a dict with written keys, an instance of the class c, that stands still -/
def OkR (a : Addr) (c : Option Str) (ks : List Str) (xs : List V) : Prop := ¬ O a ∧ match c with
  | none => H a = some (.dK ((ks.map Sum.inr).zip xs))
  | some c => ∃ dx, H a = some (.ins (He.ga K c) dx (ks.zip xs))
mutual
def Rep : D → V → Prop
  | .non, v => v = .non
  | .bl b, v => v = .bl b
  | .int i, v => v = .int i
  | .str x, v => v = .str x
  | .tup ds, v => ∃ a xs, v = .ref a ∧ OkT K O H a xs ∧ RepL ds xs
  | .lst ds, v => ∃ a xs, v = .ref a ∧ OkL O H a xs ∧ RepL ds xs
  | .ob a, v => v = .ref a
  | .rc c ks ds, v => ∃ a xs, v = .ref a ∧ OkR K O H a c ks xs ∧ RepL ds xs
def RepL : List D → List V → Prop
  | [], xs => xs = []
  | d :: ds, xs => ∃ y ys, xs = y :: ys ∧ Rep d y ∧ RepL ds ys
end
end
section
variable {K : PySem.W.Frag} {O O' : Own} {H H' : Hp}
theorem OkL.sq {a : Addr} {xs : List V} (h : OkL O H a xs) : SqL K H a xs := SqL.of h.1
theorem OkT.sq {a : Addr} {xs : List V} (h : OkT K O H a xs) : SqT K H a xs := h.imp (·.1) id

/-- what may happen to the heap while data is held: only owned objects change, what is newly owned is new -/
structure Stp (O : Own) (H : Hp) (O' : Own) (H' : Hp) : Prop where
  keep : ∀ a o, H a = some o → ¬ O a → H' a = some o
  own : ∀ a, O' a → O a ∨ H a = none
theorem Stp.refl (O : Own) (H : Hp) : Stp O H O H := ⟨fun _ _ e _ => e, fun _ h => .inl h⟩
theorem Stp.trans {O1 O2 : Own} {H1 H2 : Hp} (a : Stp O H O1 H1) (b : Stp O1 H1 O2 H2) : Stp O H O2 H2 := by
  refine ⟨fun x o e n => ?_, fun x z => ?_⟩
  · refine b.keep x o (a.keep x o e n) fun z => ?_
    rcases a.own x z with q | q
    · exact n q
    · rw [e] at q; cases q
  · rcases b.own x z with q | q
    · exact a.own x q
    · by_cases hO : O x
      · exact .inl hO
      · right
        cases e : H x with
        | none => rfl
        | some o => rw [a.keep x o e hO] at q; cases q
theorem Rd.stp {a : Addr} {u : HO} (h : Rd H a u) (n : ¬ O a) (s : Stp O H O' H') : Rd H' a u ∧ ¬ O' a := by
  have key : ∀ o, H a = some o → H' a = some o ∧ ¬ O' a := fun o e => ⟨s.keep a o e n, fun z => by
    rcases s.own a z with q | q
    · exact n q
    · rw [e] at q; cases q⟩
  rcases h with h | ⟨o, h⟩
  · exact ⟨.inl (key _ h).1, (key _ h).2⟩
  · exact ⟨.inr ⟨o, (key _ h).1⟩, (key _ h).2⟩
theorem OkL.stp {a : Addr} {xs : List V} (h : OkL O H a xs) (s : Stp O H O' H') : OkL O' H' a xs := ⟨s.keep a _ h.1 h.2, fun z => by
  rcases s.own a z with q | q
  · exact h.2 q
  · rw [h.1] at q; cases q⟩
theorem OkT.stp {a : Addr} {xs : List V} (h : OkT K O H a xs) (s : Stp O H O' H') : OkT K O' H' a xs := h.imp (fun z => Rd.stp z.1 z.2 s) id
theorem OkR.stp {a : Addr} {c : Option Str} {ks : List Str} {xs : List V} (h : OkR K O H a c ks xs) (s : Stp O H O' H') : OkR K O' H' a c ks xs := by
  have key : ∀ o, H a = some o → H' a = some o ∧ ¬ O' a := fun o e => ⟨s.keep a o e h.1, fun z => by
    rcases s.own a z with q | q
    · exact h.1 q
    · rw [e] at q; cases q⟩
  cases c with
  | none => exact ⟨(key _ h.2).2, (key _ h.2).1⟩
  | some c =>
    obtain ⟨dx, e⟩ := h.2
    exact ⟨(key _ e).2, dx, (key _ e).1⟩
mutual
theorem Rep.stp (s : Stp O H O' H') : ∀ (d : D) (v : V), Rep K O H d v → Rep K O' H' d v
  | .non, v, h => by unfold Rep at h ⊢; exact h
  | .bl b, v, h => by unfold Rep at h ⊢; exact h
  | .int i, v, h => by unfold Rep at h ⊢; exact h
  | .str x, v, h => by unfold Rep at h ⊢; exact h
  | .ob a, v, h => by unfold Rep at h ⊢; exact h
  | .rc c ks ds, v, h => by
    unfold Rep at h ⊢
    obtain ⟨a, xs, e, t, r⟩ := h
    exact ⟨a, xs, e, t.stp s, RepL.stp s ds xs r⟩
  | .tup ds, v, h => by
    unfold Rep at h ⊢
    obtain ⟨a, xs, e, t, r⟩ := h
    exact ⟨a, xs, e, t.stp s, RepL.stp s ds xs r⟩
  | .lst ds, v, h => by
    unfold Rep at h ⊢
    obtain ⟨a, xs, e, t, r⟩ := h
    exact ⟨a, xs, e, t.stp s, RepL.stp s ds xs r⟩
theorem RepL.stp (s : Stp O H O' H') : ∀ (ds : List D) (xs : List V), RepL K O H ds xs → RepL K O' H' ds xs
  | [], xs, h => by unfold RepL at h ⊢; exact h
  | d :: ds, xs, h => by
    unfold RepL at h ⊢
    obtain ⟨y, ys, e, r, t⟩ := h
    exact ⟨y, ys, e, Rep.stp s d y r, RepL.stp s ds ys t⟩
end
theorem rep_non {v : V} : Rep K O H .non v ↔ v = .non := by unfold Rep; exact Iff.rfl
theorem rep_bl {b : Bool} {v : V} : Rep K O H (.bl b) v ↔ v = .bl b := by unfold Rep; exact Iff.rfl
theorem rep_int {i : Int} {v : V} : Rep K O H (.int i) v ↔ v = .int i := by unfold Rep; exact Iff.rfl
theorem rep_str {x : Str} {v : V} : Rep K O H (.str x) v ↔ v = .str x := by unfold Rep; exact Iff.rfl
theorem rep_ob {a : Addr} {v : V} : Rep K O H (.ob a) v ↔ v = .ref a := by unfold Rep; exact Iff.rfl
theorem rep_tup {ds : List D} {v : V} : Rep K O H (.tup ds) v ↔ ∃ a xs, v = .ref a ∧ OkT K O H a xs ∧ RepL K O H ds xs := by rw [Rep]
theorem rep_lst {ds : List D} {v : V} : Rep K O H (.lst ds) v ↔ ∃ a xs, v = .ref a ∧ OkL O H a xs ∧ RepL K O H ds xs := by rw [Rep]
theorem rep_rc {c : Option Str} {ks : List Str} {ds : List D} {v : V} : Rep K O H (.rc c ks ds) v ↔ ∃ a xs, v = .ref a ∧ OkR K O H a c ks xs ∧ RepL K O H ds xs := by rw [Rep]
theorem repL_nil {xs : List V} : RepL K O H [] xs ↔ xs = [] := by rw [RepL]
theorem repL_cons {d : D} {ds : List D} {xs : List V} : RepL K O H (d :: ds) xs ↔ ∃ y ys, xs = y :: ys ∧ Rep K O H d y ∧ RepL K O H ds ys := by rw [RepL]
theorem RepL.length : ∀ {ds : List D} {xs : List V}, RepL K O H ds xs → xs.length = ds.length
  | [], xs, h => by rw [repL_nil.mp h]; rfl
  | d :: ds, xs, h => by
    obtain ⟨y, ys, rfl, _, t⟩ := repL_cons.mp h
    rw [List.length_cons, List.length_cons, RepL.length t]
theorem RepL.get : ∀ {ds : List D} {xs : List V}, RepL K O H ds xs → ∀ {j : Nat} {d : D}, ds[j]? = some d → ∃ v, xs[j]? = some v ∧ Rep K O H d v
  | [], _, _, j, d, e => by simp at e
  | a :: ds, xs, h, 0, d, e => by
    obtain ⟨y, ys, rfl, r, _⟩ := repL_cons.mp h
    simp at e; subst e
    exact ⟨y, rfl, r⟩
  | a :: ds, xs, h, j + 1, d, e => by
    obtain ⟨y, ys, rfl, _, t⟩ := repL_cons.mp h
    obtain ⟨v, e1, r⟩ := RepL.get t (j := j) (d := d) (by simpa using e)
    exact ⟨v, by simpa using e1, r⟩
theorem RepL.append : ∀ {ds es : List D} {xs ys : List V}, RepL K O H ds xs → RepL K O H es ys → RepL K O H (ds ++ es) (xs ++ ys)
  | [], es, xs, ys, h, k => by rw [repL_nil.mp h]; exact k
  | d :: ds, es, xs, ys, h, k => by
    obtain ⟨y, zs, rfl, r, t⟩ := repL_cons.mp h
    exact repL_cons.mpr ⟨y, zs ++ ys, rfl, r, RepL.append t k⟩
theorem RepL.take : ∀ {ds : List D} {xs : List V} (n : Nat), RepL K O H ds xs → RepL K O H (ds.take n) (xs.take n)
  | _, _, 0, _ => by simp; exact repL_nil.mpr rfl
  | [], xs, n + 1, h => by rw [repL_nil.mp h]; exact repL_nil.mpr rfl
  | d :: ds, xs, n + 1, h => by
    obtain ⟨y, zs, rfl, r, t⟩ := repL_cons.mp h
    exact repL_cons.mpr ⟨y, zs.take n, rfl, r, RepL.take n t⟩
theorem RepL.drop : ∀ {ds : List D} {xs : List V} (n : Nat), RepL K O H ds xs → RepL K O H (ds.drop n) (xs.drop n)
  | _, _, 0, h => h
  | [], xs, n + 1, h => by rw [repL_nil.mp h]; exact repL_nil.mpr rfl
  | d :: ds, xs, n + 1, h => by
    obtain ⟨y, zs, rfl, r, t⟩ := repL_cons.mp h
    exact RepL.drop n t
theorem RepL.set : ∀ {ds : List D} {xs : List V} (n : Nat) {d : D} {v : V}, RepL K O H ds xs → Rep K O H d v → RepL K O H (ds.set n d) (xs.set n v)
  | [], xs, n, d, v, h, _ => by rw [repL_nil.mp h]; exact repL_nil.mpr rfl
  | a :: ds, xs, 0, d, v, h, k => by
    obtain ⟨y, zs, rfl, r, t⟩ := repL_cons.mp h
    exact repL_cons.mpr ⟨v, zs, rfl, k, t⟩
  | a :: ds, xs, n + 1, d, v, h, k => by
    obtain ⟨y, zs, rfl, r, t⟩ := repL_cons.mp h
    exact repL_cons.mpr ⟨y, zs.set n v, rfl, r, RepL.set n t k⟩
theorem RepL.one {d : D} {v : V} (h : Rep K O H d v) : RepL K O H [d] [v] := repL_cons.mpr ⟨v, [], rfl, h, repL_nil.mpr rfl⟩
theorem RepL.ints : ∀ {ns : List Int}, RepL K O H (ns.map D.int) (ns.map V.int)
  | [] => repL_nil.mpr rfl
  | n :: ns => repL_cons.mpr ⟨_, _, rfl, rep_int.mpr rfl, RepL.ints⟩

/-- what a dict holds -/
def KvR (K : PySem.W.Frag) (O : Own) (H : Hp) : List (List L2.Key × D) → List (List L2.Key × V) → Prop
  | [], ys => ys = []
  | p :: r, ys => ∃ v t, ys = (p.1, v) :: t ∧ Rep K O H p.2 v ∧ KvR K O H r t
theorem KvR.stp (s : Stp O H O' H') : ∀ (r : List (List L2.Key × D)) (ys : List (List L2.Key × V)), KvR K O H r ys → KvR K O' H' r ys
  | [], _, h => h
  | p :: r, _, ⟨v, t, e, h, q⟩ => ⟨v, t, e, Rep.stp s _ _ h, KvR.stp s r t q⟩
/-- data that may be read now -/
def View (K : PySem.W.Frag) (O : Own) (H : Hp) (d : D) (v : V) : Prop := match d with
  | .lst ds => ∃ a xs, v = .ref a ∧ SqL K H a xs ∧ RepL K O H ds xs
  | d => Rep K O H d v
theorem Rep.view {d : D} {v : V} (h : Rep K O H d v) : View K O H d v := by
  cases d with
  | lst ds =>
    obtain ⟨a, xs, e, t, r⟩ := rep_lst.mp h
    exact ⟨a, xs, e, t.sq, r⟩
  | _ => exact h

/-! ### the state of a body -/
/-- at the entry: the heap, what is owned by anybody, what this body may change of it -/
structure Gh where
  H0 : Hp
  O0 : Own
  mus : Nat → Option Addr
def Gh.M (G : Gh) (a : Addr) : Prop := ∃ i, G.mus i = some a
def Gh.Wr (G : Gh) (a : Addr) : Prop := G.H0 a = none ∨ G.M a
/-- a list lent to be read -/
def BoR (G : Gh) (K : PySem.W.Frag) (H : Hp) (a : Addr) (xs : List V) : Prop := (Rd H a (.lst xs) ∧ ¬ G.Wr a) ∨ KL K a xs
def SlotR (G : Gh) (K : PySem.W.Frag) (O : Own) (H : Hp) : SV → V → Prop
  | .sh d, v => Rep K O H d v
  | .ow ds, v => ∃ a xs, v = .ref a ∧ H a = some (.lst xs) ∧ O a ∧ G.H0 a = none ∧ RepL K O H ds xs
  | .mu ds, v => ∃ a xs, v = .ref a ∧ H a = some (.lst xs) ∧ O a ∧ G.M a ∧ RepL K O H ds xs
  | .bo ds, v => ∃ a xs, v = .ref a ∧ BoR G K H a xs ∧ RepL K O H ds xs
  | .dc a kvs, v => v = .ref a ∧ O a ∧ G.H0 a = none ∧ ∃ ys, H a = some (.dT ys) ∧ KvR K O H kvs ys
def SV.isOwn : SV → Bool
  | .ow _ => true
  | .mu _ => true
  | _ => false
/-- what is held beside the slots: data that stands still; an own list, as it stands -/
inductive HdI where
  | val (d : D) (v : V) | own (a : Addr) (xs : List V)
abbrev Hd := List HdI
structure StR (G : Gh) (K : PySem.W.Frag) (hs : Hd) (σ : L2.St) (H : Hp) (ρ : Env) (O : Own) : Prop where
  len : σ.length = ρ.length
  slot : ∀ (i : Nat) (sv : SV), ρ[i]? = some (some sv) → ∃ v, σ[i]? = some (some v) ∧ SlotR G K O H sv v
  inj : ∀ (i j : Nat) (sv tv : SV) (a : Addr), i ≠ j → ρ[i]? = some (some sv) → ρ[j]? = some (some tv) → sv.isOwn = true → tv.isOwn = true →
    σ[i]? = some (some (V.ref a)) → σ[j]? = some (some (V.ref a)) → False
  held : ∀ d v, HdI.val d v ∈ hs → Rep K O H d v
  pins : ∀ a xs, HdI.own a xs ∈ hs → H a = some (.lst xs) ∧ O a ∧ G.H0 a = none ∧ ∀ (j : Nat) (tv : SV), ρ[j]? = some (some tv) → tv.isOwn = true → σ[j]? ≠ some (some (V.ref a))
  outer : ∀ a, G.O0 a → O a
  mo : ∀ a, G.M a → G.O0 a
  keep : ∀ a o, G.H0 a = some o → ¬ G.M a → H a = some o
  alloc : ∀ a, O a → H a ≠ none
  mus : ∀ (i : Nat) (ds : List D), ρ[i]? = some (some (.mu ds)) → ∃ a, G.mus i = some a ∧ σ[i]? = some (some (V.ref a))
  alloc0 : ∀ a, G.O0 a → G.H0 a ≠ none
/-- a step that this body may take: only what it may change changes -/
structure Stq (G : Gh) (O : Own) (H : Hp) (O' : Own) (H' : Hp) : Prop extends Stp O H O' H' where
  wr : ∀ a o, H a = some o → ¬ G.Wr a → H' a = some o
theorem Stq.refl (G : Gh) (O : Own) (H : Hp) : Stq G O H O H := ⟨Stp.refl O H, fun _ _ e _ => e⟩
theorem BoR.stq {G : Gh} {a : Addr} {xs : List V} (h : BoR G K H a xs) (s : Stq G O H O' H') : BoR G K H' a xs := by
  rcases h with ⟨h, n⟩ | h
  · left
    rcases h with h | ⟨o, h⟩
    · exact ⟨.inl (s.wr _ _ h n), n⟩
    · exact ⟨.inr ⟨o, s.wr _ _ h n⟩, n⟩
  · exact .inr h
theorem BoR.sq {G : Gh} {a : Addr} {xs : List V} (h : BoR G K H a xs) : SqL K H a xs := h.imp (·.1) id
theorem SlotR.view {G : Gh} {sv : SV} {v : V} (h : SlotR G K O H sv v) : View K O H sv.fz v := by
  cases sv with
  | sh d => exact Rep.view h
  | ow ds =>
    obtain ⟨a, xs, e, h1, _, _, r⟩ := h
    exact ⟨a, xs, e, SqL.of h1, r⟩
  | mu ds =>
    obtain ⟨a, xs, e, h1, _, _, r⟩ := h
    exact ⟨a, xs, e, SqL.of h1, r⟩
  | bo ds =>
    obtain ⟨a, xs, e, h1, r⟩ := h
    exact ⟨a, xs, e, h1.sq, r⟩
  | dc a kvs => exact (show Rep K O H (.ob a) v from rep_ob.mpr h.1)
/-- a step that leaves this slot's own object -/
theorem SlotR.stq {G : Gh} {sv : SV} {v : V} (h : SlotR G K O H sv v) (s : Stq G O H O' H')
    (hk : sv.isOwn = true → ∀ a xs, v = .ref a → H a = some (.lst xs) → H' a = some (.lst xs) ∧ O' a) (hd : ∀ a ys, O a → H a = some (.dT ys) → H' a = some (.dT ys) ∧ O' a) : SlotR G K O' H' sv v := by
  cases sv with
  | sh d => exact Rep.stp s.toStp d v h
  | ow ds =>
    obtain ⟨a, xs, e, h1, h2, h3, r⟩ := h
    obtain ⟨k1, k2⟩ := hk rfl a xs e h1
    exact ⟨a, xs, e, k1, k2, h3, RepL.stp s.toStp _ _ r⟩
  | mu ds =>
    obtain ⟨a, xs, e, h1, h2, h3, r⟩ := h
    obtain ⟨k1, k2⟩ := hk rfl a xs e h1
    exact ⟨a, xs, e, k1, k2, h3, RepL.stp s.toStp _ _ r⟩
  | bo ds =>
    obtain ⟨a, xs, e, h1, r⟩ := h
    exact ⟨a, xs, e, h1.stq s, RepL.stp s.toStp _ _ r⟩
  | dc a kvs =>
    obtain ⟨e, h1, h2, ys, h3, r⟩ := h
    exact ⟨e, (hd a ys h1 h3).2, h2, ys, (hd a ys h1 h3).1, r.stp s.toStp⟩
/-- what an expression gives: data that stands still, or a new list of our own -/
def ResR (G : Gh) (K : PySem.W.Frag) (hs : Hd) (σ : L2.St) (ρ : Env) (O : Own) (H : Hp) : SV → V → Prop
  | .sh d, v => Rep K O H d v
  | .ow ds, v => ∃ a xs, v = .ref a ∧ H a = some (.lst xs) ∧ O a ∧ G.H0 a = none ∧ RepL K O H ds xs ∧
      (∀ (j : Nat) (tv : SV), ρ[j]? = some (some tv) → tv.isOwn = true → σ[j]? ≠ some (some (V.ref a))) ∧ ∀ ys, HdI.own a ys ∉ hs
  | .dc a kvs, v => v = .ref a ∧ O a ∧ G.H0 a = none ∧ ∃ ys, H a = some (.dT ys) ∧ KvR K O H kvs ys
  | _, _ => False
variable {G : Gh} {hs hs' : Hd} {σ : L2.St} {ρ : Env}
theorem StR.fewer (st : StR G K hs σ H ρ O) (h : ∀ p, p ∈ hs' → p ∈ hs) : StR G K hs' σ H ρ O :=
  ⟨st.len, st.slot, st.inj, fun d v hp => st.held d v (h _ hp), fun a xs hp => st.pins a xs (h _ hp), st.outer, st.mo, st.keep, st.alloc, st.mus, st.alloc0⟩
theorem ResR.fewer {sv : SV} {v : V} (r : ResR G K hs σ ρ O H sv v) (h : ∀ p, p ∈ hs' → p ∈ hs) : ResR G K hs' σ ρ O H sv v := by
  cases sv with
  | sh d => exact r
  | ow ds =>
    obtain ⟨a, xs, h1, h2, h3, h4, h5, h6, h7⟩ := r
    exact ⟨a, xs, h1, h2, h3, h4, h5, h6, fun ys hy => h7 ys (h _ hy)⟩
  | mu ds => exact r
  | bo ds => exact r
  | dc a kvs => exact r
/-- an own list that is held as it stands -/
theorem StR.pin (st : StR G K hs σ H ρ O) {ds : List D} {v : V} (r : ResR G K hs σ ρ O H (.ow ds) v) : ∃ a xs, v = .ref a ∧ RepL K O H ds xs ∧ StR G K (.own a xs :: hs) σ H ρ O := by
  obtain ⟨a, xs, e, h1, h2, h3, h4, h5, _⟩ := r
  refine ⟨a, xs, e, h4, st.len, st.slot, st.inj, fun d v hp => ?_, fun b ys hp => ?_, st.outer, st.mo, st.keep, st.alloc, st.mus, st.alloc0⟩
  · rcases List.mem_cons.mp hp with e | hp
    · cases e
    · exact st.held d v hp
  · rcases List.mem_cons.mp hp with e | hp
    · cases e; exact ⟨h1, h2, h3, h5⟩
    · exact st.pins b ys hp
/-- .. is changed -/
theorem StR.pinWrite {a : Addr} {xs ys : List V} (st : StR G K (.own a xs :: hs) σ H ρ O) (hn : ∀ zs, HdI.own a zs ∉ hs) : StR G K (.own a ys :: hs) σ (upd H a (.lst ys)) ρ O ∧ Stp O H O (upd H a (.lst ys)) := by
  obtain ⟨h1, h2, h3, h4⟩ := st.pins a xs List.mem_cons_self
  have s : Stq G O H O (upd H a (.lst ys)) := ⟨⟨fun b o eb n => by rw [upd_ne (fun z => by subst z; exact n h2)]; exact eb, fun b h => .inl h⟩, fun b o eb n => by rw [upd_ne (fun z => by subst z; exact n (.inl h3))]; exact eb⟩
  refine ⟨⟨st.len, fun i sv e => ?_, st.inj, fun d v hp => ?_, fun b zs hp => ?_, st.outer, st.mo, fun b o eb n => ?_, fun b hb => ?_, st.mus, st.alloc0⟩, s.toStp⟩
  · obtain ⟨v, e1, q⟩ := st.slot i sv e
    refine ⟨v, e1, q.stq s (fun ho b zs ev eb => ⟨?_, ?_⟩) fun b ys hO eb => ⟨by rw [upd_ne (fun z => by subst z; rw [h1] at eb; cases eb)]; exact eb, hO⟩⟩
    · have : b ≠ a := fun z => h4 i sv e ho (by rw [e1, ev, z])
      rw [upd_ne this]; exact eb
    · cases sv with
      | ow ds => obtain ⟨b', ys', e', _, h2, _⟩ := q; rw [ev] at e'; cases e'; exact h2
      | mu ds => obtain ⟨b', ys', e', _, h2, _⟩ := q; rw [ev] at e'; cases e'; exact h2
      | sh d => cases ho
      | bo ds => cases ho
      | dc a kvs => cases ho
  · rcases List.mem_cons.mp hp with e | hp
    · cases e
    · exact Rep.stp s.toStp _ _ (st.held d v (List.mem_cons_of_mem _ hp))
  · rcases List.mem_cons.mp hp with e | hp2
    · cases e; exact ⟨upd_same, h2, h3, h4⟩
    · obtain ⟨k1, k2, k3, k4⟩ := st.pins b zs (List.mem_cons_of_mem _ hp2)
      have : b ≠ a := fun z => hn zs (z ▸ hp2)
      exact ⟨by rw [upd_ne this]; exact k1, k2, k3, k4⟩
  · have z : b ≠ a := fun z => by subst z; rw [eb] at h3; cases h3
    rw [upd_ne z]
    exact st.keep b o eb n
  · unfold upd
    split
    · simp
    · exact st.alloc b hb
theorem StR.hold (st : StR G K hs σ H ρ O) {d : D} {v : V} (h : Rep K O H d v) : StR G K (.val d v :: hs) σ H ρ O :=
  ⟨st.len, st.slot, st.inj, fun d' v' hp => by
    rcases List.mem_cons.mp hp with e | hp
    · cases e; exact h
    · exact st.held d' v' hp, fun a xs hp => by
    rcases List.mem_cons.mp hp with e | hp
    · cases e
    · exact st.pins a xs hp, st.outer, st.mo, st.keep, st.alloc, st.mus, st.alloc0⟩
theorem StR.fresh0 (st : StR G K hs σ H ρ O) {a : Addr} (h : H a = none) : G.H0 a = none := by
  cases e : G.H0 a with
  | none => rfl
  | some o =>
    by_cases hm : G.M a
    · exact absurd h (st.alloc a (st.outer a (st.mo a hm)))
    · rw [st.keep a o e hm] at h; cases h
/-- a step that leaves all own objects of the slots -/
theorem StR.stq (st : StR G K hs σ H ρ O) (s : Stq G O H O' H') (hO : ∀ a, O a → O' a) (hk : ∀ a xs, O a → H a = some (.lst xs) → H' a = some (.lst xs)) (hd : ∀ a ys, O a → H a = some (.dT ys) → H' a = some (.dT ys)) (al : ∀ a, O' a → H' a ≠ none) : StR G K hs σ H' ρ O' := by
  refine ⟨st.len, fun i sv e => ?_, st.inj, fun d v hp => Rep.stp s.toStp _ _ (st.held d v hp), fun a xs hp => ⟨hk a xs (st.pins a xs hp).2.1 (st.pins a xs hp).1, hO a (st.pins a xs hp).2.1, (st.pins a xs hp).2.2⟩, fun a h => hO a (st.outer a h), st.mo, fun a o e n => ?_, al, st.mus, st.alloc0⟩
  · obtain ⟨v, e1, h⟩ := st.slot i sv e
    refine ⟨v, e1, h.stq s (fun ho a xs ev ea => ?_) fun a ys hOa ea => ⟨hd a ys hOa ea, hO a hOa⟩⟩
    have hOa : O a := by
      cases sv with
      | ow ds => obtain ⟨a', xs', e', _, h2, _⟩ := h; rw [e'] at ev; cases ev; exact h2
      | mu ds => obtain ⟨a', xs', e', _, h2, _⟩ := h; rw [e'] at ev; cases ev; exact h2
      | sh d => cases ho
      | bo ds => cases ho
      | dc a kvs => cases ho
    exact ⟨hk a xs hOa ea, hO a hOa⟩
  · refine s.wr a o (st.keep a o e n) fun z => ?_
    rcases z with z | z
    · rw [e] at z; cases z
    · exact n z
/-- a new object -/
theorem StR.new (st : StR G K hs σ H ρ O) {p : Addr} {o : HO} (hp : H p = none) : StR G K hs σ (upd H p o) ρ O ∧ Stp O H O (upd H p o) := by
  have s : Stq G O H O (upd H p o) := ⟨⟨fun a u e _ => by rw [upd_ne (ne_of_none e hp)]; exact e, fun a h => .inl h⟩, fun a u e _ => by rw [upd_ne (ne_of_none e hp)]; exact e⟩
  refine ⟨st.stq s (fun _ h => h) (fun a xs _ e => by rw [upd_ne (ne_of_none e hp)]; exact e) (fun a xs _ e => by rw [upd_ne (ne_of_none e hp)]; exact e) (fun a h => ?_), s.toStp⟩
  have := st.alloc a h
  unfold upd
  split
  · simp
  · exact this
/-- a new object that is owned -/
theorem StR.newOwn (st : StR G K hs σ H ρ O) {p : Addr} {o : HO} (hp : H p = none) : StR G K hs σ (upd H p o) ρ (fun a => O a ∨ a = p) ∧ Stp O H (fun a => O a ∨ a = p) (upd H p o) := by
  have s : Stq G O H (fun a => O a ∨ a = p) (upd H p o) := ⟨⟨fun a u e _ => by rw [upd_ne (ne_of_none e hp)]; exact e, fun a h => h.imp id fun e => by rw [e]; exact hp⟩, fun a u e _ => by rw [upd_ne (ne_of_none e hp)]; exact e⟩
  refine ⟨st.stq s (fun _ h => .inl h) (fun a xs _ e => by rw [upd_ne (ne_of_none e hp)]; exact e) (fun a xs _ e => by rw [upd_ne (ne_of_none e hp)]; exact e) (fun a h => ?_), s.toStp⟩
  unfold upd
  split
  · simp
  · rename_i n
    rcases h with h | h
    · exact st.alloc a h
    · exact absurd h n
/-- results -/
theorem StR.resTup (st : StR G K hs σ H ρ O) {p : Addr} {xs : List V} {ds : List D} (hp : H p = none) (r : RepL K O H ds xs) :
    StR G K hs σ (upd H p (.tup xs)) ρ O ∧ ResR G K hs σ ρ O (upd H p (.tup xs)) (.sh (.tup ds)) (.ref p) := by
  obtain ⟨st', s⟩ := st.new (o := .tup xs) hp
  refine ⟨st', rep_tup.mpr ⟨p, xs, rfl, .inl ⟨.inl upd_same, fun h => st.alloc p h hp⟩, RepL.stp s _ _ r⟩⟩
theorem StR.own_ne (st : StR G K hs σ H ρ O) {p : Addr} (hp : H p = none) : ∀ (j : Nat) (tv : SV), ρ[j]? = some (some tv) → tv.isOwn = true → σ[j]? ≠ some (some (V.ref p)) := fun j tv e ho e2 => by
  obtain ⟨v, e1, h⟩ := st.slot j tv e
  rw [e1] at e2
  cases e2
  cases tv with
  | ow ds => obtain ⟨a, xs, e', h1, _⟩ := h; cases e'; rw [hp] at h1; cases h1
  | mu ds => obtain ⟨a, xs, e', h1, _⟩ := h; cases e'; rw [hp] at h1; cases h1
  | sh d => cases ho
  | bo ds => cases ho
  | dc a kvs => cases ho
theorem StR.resLst (st : StR G K hs σ H ρ O) {p : Addr} {xs : List V} {ds : List D} (hp : H p = none) (r : RepL K O H ds xs) :
    StR G K hs σ (upd H p (.lst xs)) ρ (fun a => O a ∨ a = p) ∧ ResR G K hs σ ρ (fun a => O a ∨ a = p) (upd H p (.lst xs)) (.ow ds) (.ref p) := by
  obtain ⟨st', s⟩ := st.newOwn (o := .lst xs) hp
  exact ⟨st', p, xs, rfl, upd_same, .inr rfl, st.fresh0 hp, RepL.stp s _ _ r, st.own_ne hp, fun ys hy => by rw [(st.pins p ys hy).1] at hp; cases hp⟩
/-- an own object is given up: from now on it stands still -/
theorem StR.giveUp (st : StR G K hs σ H ρ O) {a : Addr} {xs0 : List V} (hl0 : H a = some (.lst xs0)) (h0 : G.H0 a = none) (hn : ∀ (j : Nat) (tv : SV), ρ[j]? = some (some tv) → tv.isOwn = true → σ[j]? ≠ some (some (V.ref a))) (hp : ∀ ys, HdI.own a ys ∉ hs) :
    StR G K hs σ H ρ (fun b => O b ∧ b ≠ a) ∧ Stp O H (fun b => O b ∧ b ≠ a) H := by
  have s : Stp O H (fun b => O b ∧ b ≠ a) H := ⟨fun _ _ e _ => e, fun b h => .inl h.1⟩
  refine ⟨⟨st.len, fun i sv e => ?_, st.inj, fun d v hp => Rep.stp s _ _ (st.held d v hp), fun b xs hb => ⟨(st.pins b xs hb).1, ⟨(st.pins b xs hb).2.1, fun z => hp xs (z ▸ hb)⟩, (st.pins b xs hb).2.2⟩, fun b h => ⟨st.outer b h, fun e => ?_⟩, st.mo, st.keep, fun b h => st.alloc b h.1, st.mus, st.alloc0⟩, s⟩
  · obtain ⟨v, e1, h⟩ := st.slot i sv e
    refine ⟨v, e1, h.stq ⟨s, fun _ _ e _ => e⟩ (fun ho b xs ev eb => ⟨eb, ?_, fun z => ?_⟩) fun b ys hO eb => ⟨eb, hO, fun z => by subst z; rw [hl0] at eb; cases eb⟩⟩
    · cases sv with
      | ow ds => obtain ⟨a', xs', e', _, h2, _⟩ := h; rw [e'] at ev; cases ev; exact h2
      | mu ds => obtain ⟨a', xs', e', _, h2, _⟩ := h; rw [e'] at ev; cases ev; exact h2
      | sh d => cases ho
      | bo ds => cases ho
      | dc a kvs => cases ho
    · subst z
      exact hn i sv e ho (by rw [e1, ev])
  · subst e
    exact absurd h0 (st.alloc0 b h)
theorem ResR.freeze {sv : SV} {v : V} (st : StR G K hs σ H ρ O) (h : ResR G K hs σ ρ O H sv v) : ∃ O', StR G K hs σ H ρ O' ∧ Stp O H O' H ∧ Rep K O' H sv.fz v := by
  cases sv with
  | sh d => exact ⟨O, st, Stp.refl O H, h⟩
  | ow ds =>
    obtain ⟨a, xs, e, h1, h2, h3, r, hn, hpp⟩ := h
    obtain ⟨st', s⟩ := st.giveUp h1 h3 hn hpp
    exact ⟨_, st', s, rep_lst.mpr ⟨a, xs, e, ⟨h1, fun z => z.2 rfl⟩, RepL.stp s _ _ r⟩⟩
  | mu ds => cases h
  | bo ds => cases h
  | dc a kvs => exact ⟨O, st, Stp.refl O H, (show Rep K O H (.ob a) v from rep_ob.mpr h.1)⟩
/-- a slot is set -/
theorem set_at {α : Type} {l : List α} {i j : Nat} {x y : α} (e : (l.set i x)[j]? = some y) : (j = i ∧ y = x ∧ i < l.length) ∨ (j ≠ i ∧ l[j]? = some y) := by
  by_cases h : j = i
  · subst h
    by_cases hl : j < l.length
    · rw [List.getElem?_set_self hl] at e
      exact .inl ⟨rfl, (Option.some.inj e).symm, hl⟩
    · rw [List.getElem?_eq_none (by simpa using Nat.le_of_not_lt hl)] at e
      cases e
  · rw [List.getElem?_set_ne (Ne.symm h)] at e
    exact .inr ⟨h, e⟩
theorem StR.set (st : StR G K hs σ H ρ O) {i : Nat} {sv : SV} {v : V} (h : ResR G K hs σ ρ O H sv v) : StR G K hs (σ.set i (some v)) H (ρ.set i (some sv)) O := by
  have hsl : SlotR G K O H sv v := by
    cases sv with
    | sh d => exact h
    | ow ds => obtain ⟨a, xs, e, h1, h2, h3, r, _, _⟩ := h; exact ⟨a, xs, e, h1, h2, h3, r⟩
    | mu ds => cases h
    | bo ds => cases h
    | dc a kvs => exact h
  have hnew : sv.isOwn = true → ∀ a, v = .ref a → ∀ (j : Nat) (tv : SV), ρ[j]? = some (some tv) → tv.isOwn = true → σ[j]? ≠ some (some (V.ref a)) := fun ho a ev => by
    cases sv with
    | ow ds => obtain ⟨a', xs, e, _, _, _, _, hn, _⟩ := h; rw [e] at ev; cases ev; exact hn
    | sh d => cases ho
    | mu ds => cases h
    | bo ds => cases h
    | dc a kvs => cases ho
  have hmu : ∀ (j : Nat) (ds : List D), (ρ.set i (some sv))[j]? = some (some (.mu ds)) → ∃ a, G.mus j = some a ∧ (σ.set i (some v))[j]? = some (some (V.ref a)) := fun j ds e => by
    rcases set_at e with ⟨rfl, e2, hl⟩ | ⟨hj, e2⟩
    · cases e2
      cases h
    · obtain ⟨a, h1, h2⟩ := st.mus j ds e2
      exact ⟨a, h1, by rw [List.getElem?_set_ne (Ne.symm hj)]; exact h2⟩
  have hpin : ∀ a xs, HdI.own a xs ∈ hs → H a = some (.lst xs) ∧ O a ∧ G.H0 a = none ∧ ∀ (j : Nat) (tv : SV), (ρ.set i (some sv))[j]? = some (some tv) → tv.isOwn = true → (σ.set i (some v))[j]? ≠ some (some (V.ref a)) := fun a xs hp => by
    obtain ⟨h1, h2, h3, h4⟩ := st.pins a xs hp
    refine ⟨h1, h2, h3, fun j tv e o e2 => ?_⟩
    rcases set_at e with ⟨rfl, e3, hl⟩ | ⟨hj, e3⟩
    · cases e3
      rcases set_at e2 with ⟨_, ev, _⟩ | ⟨hj, _⟩
      · cases sv with
        | ow ds => obtain ⟨a', ys, e', _, _, _, _, _, hq⟩ := h; rw [← Option.some.inj ev] at e'; cases e'; exact hq xs hp
        | sh d => cases o
        | mu ds => cases h
        | bo ds => cases h
        | dc a kvs => cases o
      · exact hj rfl
    · rw [List.getElem?_set_ne (Ne.symm hj)] at e2
      exact h4 j tv e3 o e2
  refine ⟨by rw [List.length_set, List.length_set]; exact st.len, fun j tv e => ?_, fun j k tv uv a hjk ej ek oj ok sj sk => ?_, st.held, hpin, st.outer, st.mo, st.keep, st.alloc, hmu, st.alloc0⟩
  · rcases set_at e with ⟨rfl, e2, hl⟩ | ⟨hj, e2⟩
    · cases e2
      exact ⟨v, List.getElem?_set_self (by rw [st.len]; exact hl), hsl⟩
    · obtain ⟨u, e3, r⟩ := st.slot j tv e2
      exact ⟨u, by rw [List.getElem?_set_ne (Ne.symm hj)]; exact e3, r⟩
  · rcases set_at ej with ⟨rfl, e2, hl⟩ | ⟨hj, e2⟩
    · cases e2
      rcases set_at ek with ⟨rfl, _, _⟩ | ⟨hk, e3⟩
      · exact hjk rfl
      · rcases set_at sj with ⟨_, ev, _⟩ | ⟨hj, _⟩
        · rcases set_at sk with ⟨z, _, _⟩ | ⟨_, sk2⟩
          · exact hk z
          · exact hnew oj a (Option.some.inj ev).symm k uv e3 ok sk2
        · exact hj rfl
    · rcases set_at ek with ⟨rfl, e3, hl⟩ | ⟨hk, e3⟩
      · cases e3
        rcases set_at sk with ⟨_, ev, _⟩ | ⟨hk, _⟩
        · rcases set_at sj with ⟨z, _, _⟩ | ⟨_, sj2⟩
          · exact hj z
          · exact hnew ok a (Option.some.inj ev).symm j tv e2 oj sj2
        · exact hk rfl
      · rcases set_at sj with ⟨z, _, _⟩ | ⟨_, sj2⟩
        · exact hj z
        · rcases set_at sk with ⟨z, _, _⟩ | ⟨_, sk2⟩
          · exact hk z
          · exact st.inj j k tv uv a hjk e2 e3 oj ok sj2 sk2
/-- a slot is forgotten -/
theorem StR.drop (st : StR G K hs σ H ρ O) {i : Nat} : StR G K hs σ H (ρ.set i none) O := by
  have hmu : ∀ (j : Nat) (ds : List D), (ρ.set i none)[j]? = some (some (.mu ds)) → ∃ a, G.mus j = some a ∧ σ[j]? = some (some (V.ref a)) := fun j ds e => by
    rcases set_at e with ⟨_, e2, _⟩ | ⟨_, e2⟩
    · cases e2
    · exact st.mus j ds e2
  have hpin : ∀ a xs, HdI.own a xs ∈ hs → H a = some (.lst xs) ∧ O a ∧ G.H0 a = none ∧ ∀ (j : Nat) (tv : SV), (ρ.set i none)[j]? = some (some tv) → tv.isOwn = true → σ[j]? ≠ some (some (V.ref a)) := fun a xs hp => by
    obtain ⟨h1, h2, h3, h4⟩ := st.pins a xs hp
    refine ⟨h1, h2, h3, fun j tv e o e2 => ?_⟩
    rcases set_at e with ⟨_, e3, _⟩ | ⟨_, e3⟩
    · cases e3
    · exact h4 j tv e3 o e2
  refine ⟨by rw [List.length_set]; exact st.len, fun j tv e => ?_, fun j k tv uv a hjk ej ek oj ok sj sk => ?_, st.held, hpin, st.outer, st.mo, st.keep, st.alloc, hmu, st.alloc0⟩
  · rcases set_at e with ⟨_, e2, _⟩ | ⟨_, e2⟩
    · cases e2
    · exact st.slot j tv e2
  · rcases set_at ej with ⟨_, e2, _⟩ | ⟨_, e2⟩
    · cases e2
    · rcases set_at ek with ⟨_, e3, _⟩ | ⟨_, e3⟩
      · cases e3
      · exact st.inj j k tv uv a hjk e2 e3 oj ok sj sk
/-- the own list of a slot is handed out; the slot is forgotten -/
theorem StR.take (st : StR G K hs σ H ρ O) {i : Nat} {ds : List D} (e : ρ[i]? = some (some (.ow ds))) : ∃ v, σ[i]? = some (some v) ∧ StR G K hs σ H (ρ.set i none) O ∧ ResR G K hs σ (ρ.set i none) O H (.ow ds) v := by
  obtain ⟨v, e1, a, xs, ev, h1, h2, h3, r⟩ := st.slot i _ e
  refine ⟨v, e1, st.drop, a, xs, ev, h1, h2, h3, r, fun j tv ej ho ej2 => ?_, fun ys hy => (st.pins a ys hy).2.2.2 i _ e rfl (by rw [e1, ev])⟩
  rcases set_at ej with ⟨_, e2, _⟩ | ⟨hj, e2⟩
  · cases e2
  · subst ev
    exact st.inj i j _ tv a (Ne.symm hj) e e2 rfl ho e1 ej2
/-- a slot whose value is known is set to other knowledge -/
theorem StR.put (st : StR G K hs σ H ρ O) {i : Nat} {d : D} {v : V} (hv : σ[i]? = some (some v)) (h : Rep K O H d v) : StR G K hs σ H (ρ.set i (some (.sh d))) O := by
  have e := st.set (i := i) (sv := .sh d) (v := v) h
  have es : σ.set i (some v) = σ := by
    apply List.ext_getElem?
    intro j
    by_cases hj : j = i
    · subst hj
      rw [List.getElem?_set_self (List.getElem?_eq_some_iff.mp hv).1, hv]
    · rw [List.getElem?_set_ne (Ne.symm hj)]
  rwa [es] at e
/-- an own list of a slot is given up for good -/
theorem StR.freezeSlot (st : StR G K hs σ H ρ O) {i : Nat} {ds : List D} (e : ρ[i]? = some (some (.ow ds))) : ∃ v O', σ[i]? = some (some v) ∧ StR G K hs σ H (ρ.set i (some (.sh (.lst ds)))) O' ∧ Rep K O' H (.lst ds) v := by
  obtain ⟨v, e1, st1, r⟩ := st.take e
  obtain ⟨O', st2, _, r2⟩ := ResR.freeze st1 r
  refine ⟨v, O', e1, ?_, r2⟩
  have := st2.put e1 r2
  rwa [List.set_set] at this
/-- the own list of a slot is changed -/
def SV.with (sv : SV) (ds : List D) : SV := match sv with
  | .mu _ => .mu ds
  | _ => .ow ds
theorem StR.write (st : StR G K hs σ H ρ O) {i : Nat} {sv : SV} {ds' : List D} {a : Addr} {xs' : List V} (e : ρ[i]? = some (some sv)) (ho : sv.isOwn = true) (ea : σ[i]? = some (some (.ref a)))
    (r : RepL K O H ds' xs') : StR G K hs σ (upd H a (.lst xs')) (ρ.set i (some (sv.with ds'))) O := by
  obtain ⟨v, e1, h⟩ := st.slot i sv e
  rw [ea] at e1; cases e1
  have hOa : O a ∧ (∃ xs, H a = some (.lst xs)) ∧ G.Wr a := by
    cases sv with
    | ow ds => obtain ⟨a', xs, e', h1, h2, h3, _⟩ := h; cases e'; exact ⟨h2, ⟨xs, h1⟩, .inl h3⟩
    | mu ds => obtain ⟨a', xs, e', h1, h2, h3, _⟩ := h; cases e'; exact ⟨h2, ⟨xs, h1⟩, .inr h3⟩
    | sh d => cases ho
    | bo ds => cases ho
    | dc a kvs => cases ho
  obtain ⟨hO, ⟨xs, hxs⟩, hw⟩ := hOa
  have s : Stq G O H O (upd H a (.lst xs')) := ⟨⟨fun b o eb n => by
    rw [upd_ne (fun z => by subst z; exact n hO)]; exact eb, fun b h => .inl h⟩, fun b o eb n => by
    rw [upd_ne (fun z => by subst z; exact n hw)]; exact eb⟩
  have hmu : ∀ (j : Nat) (ds : List D), (ρ.set i (some (sv.with ds')))[j]? = some (some (.mu ds)) → ∃ a, G.mus j = some a ∧ σ[j]? = some (some (V.ref a)) := fun j ds ej => by
    rcases set_at ej with ⟨rfl, e2, _⟩ | ⟨_, e2⟩
    · cases sv with
      | mu ds0 => exact st.mus j ds0 e
      | ow ds0 => cases e2
      | sh d => cases ho
      | bo ds0 => cases ho
      | dc a kvs => cases ho
    · exact st.mus j ds e2
  have hpin : ∀ b ys, HdI.own b ys ∈ hs → (upd H a (.lst xs')) b = some (.lst ys) ∧ O b ∧ G.H0 b = none ∧ ∀ (j : Nat) (tv : SV), (ρ.set i (some (sv.with ds')))[j]? = some (some tv) → tv.isOwn = true → σ[j]? ≠ some (some (V.ref b)) := fun b ys hp => by
    obtain ⟨h1, h2, h3, h4⟩ := st.pins b ys hp
    have hba : b ≠ a := fun z => h4 i sv e ho (by rw [ea, z])
    refine ⟨by rw [upd_ne hba]; exact h1, h2, h3, fun j tv ej o e2 => ?_⟩
    rcases set_at ej with ⟨rfl, e3, _⟩ | ⟨_, e3⟩
    · rw [ea] at e2
      cases e2
      exact hba rfl
    · exact h4 j tv e3 o e2
  refine ⟨by rw [List.length_set]; exact st.len, fun j tv ej => ?_, fun j k tv uv b hjk ej ek oj ok sj sk => ?_, fun d v hp => Rep.stp s.toStp _ _ (st.held d v hp), hpin, st.outer, st.mo, fun b o eb n => ?_, fun b hb => ?_, hmu, st.alloc0⟩
  · rcases set_at ej with ⟨rfl, e2, _⟩ | ⟨hj, e2⟩
    · cases e2
      refine ⟨.ref a, ea, ?_⟩
      have r' := RepL.stp s.toStp _ _ r
      cases sv with
      | ow ds => obtain ⟨a', xs0, e', h1, h2, h3, _⟩ := h; cases e'; exact ⟨a, xs', rfl, upd_same, h2, h3, r'⟩
      | mu ds => obtain ⟨a', xs0, e', h1, h2, h3, _⟩ := h; cases e'; exact ⟨a, xs', rfl, upd_same, h2, h3, r'⟩
      | sh d => cases ho
      | bo ds => cases ho
      | dc a kvs => cases ho
    · obtain ⟨u, e3, q⟩ := st.slot j tv e2
      refine ⟨u, e3, q.stq s (fun hoj b ys eb hb => ⟨?_, ?_⟩) fun b ys hOb eb => ⟨by rw [upd_ne (fun z => by subst z; rw [hxs] at eb; cases eb)]; exact eb, hOb⟩⟩
      · rw [upd_ne (fun z => ?_)]
        · exact hb
        · subst z; subst eb
          exact st.inj j i tv sv b hj e2 e hoj ho e3 ea
      · cases tv with
        | ow ds => obtain ⟨b', ys', e', _, h2, _⟩ := q; rw [eb] at e'; cases e'; exact h2
        | mu ds => obtain ⟨b', ys', e', _, h2, _⟩ := q; rw [eb] at e'; cases e'; exact h2
        | sh d => cases hoj
        | bo ds => cases hoj
        | dc a kvs => cases hoj
  · have own_of : ∀ {j : Nat} {tv : SV}, (ρ.set i (some (sv.with ds')))[j]? = some (some tv) → tv.isOwn = true → ∃ tv', ρ[j]? = some (some tv') ∧ tv'.isOwn = true := fun {j tv} ej oj => by
      rcases set_at ej with ⟨rfl, _, _⟩ | ⟨_, e2⟩
      · exact ⟨sv, e, ho⟩
      · exact ⟨tv, e2, oj⟩
    obtain ⟨tv', e2, o2⟩ := own_of ej oj
    obtain ⟨uv', e3, o3⟩ := own_of ek ok
    exact st.inj j k tv' uv' b hjk e2 e3 o2 o3 sj sk
  · have z : b ≠ a := fun z => by
      subst z
      rcases hw with w | w
      · rw [eb] at w; cases w
      · exact n w
    rw [upd_ne z]
    exact st.keep b o eb n
  · unfold upd
    split
    · simp
    · exact st.alloc b hb
/-- how many slots hold a dict -/
def dcs : Env → Nat
  | [] => 0
  | some (.dc _ _) :: r => dcs r + 1
  | _ :: r => dcs r
theorem dcs_pos : ∀ {ρ : Env} {i : Nat} {a : Addr} {kvs : List (List L2.Key × D)}, ρ[i]? = some (some (.dc a kvs)) → 1 ≤ dcs ρ
  | x :: r, 0, a, kvs, e => by
    have : x = some (.dc a kvs) := Option.some.inj e
    subst this
    show 1 ≤ dcs r + 1
    omega
  | x :: r, i + 1, a, kvs, e => by
    have h := dcs_pos (ρ := r) (i := i) (by simpa using e)
    unfold dcs
    split <;> rename_i h2 <;> first | (cases h2; done) | (cases h2; omega) | (cases h2; exact h)
theorem dcs_two : ∀ {ρ : Env} {i j : Nat} {a b : Addr} {kvs lvs : List (List L2.Key × D)}, i ≠ j → ρ[i]? = some (some (.dc a kvs)) → ρ[j]? = some (some (.dc b lvs)) → 2 ≤ dcs ρ
  | x :: r, 0, 0, a, b, kvs, lvs, h, _, _ => absurd rfl h
  | x :: r, 0, j + 1, a, b, kvs, lvs, _, e, e2 => by
    have : x = some (.dc a kvs) := Option.some.inj e
    subst this
    have h := dcs_pos (ρ := r) (i := j) (by simpa using e2)
    show 2 ≤ dcs r + 1
    omega
  | x :: r, i + 1, 0, a, b, kvs, lvs, _, e, e2 => by
    have : x = some (.dc b lvs) := Option.some.inj e2
    subst this
    have h := dcs_pos (ρ := r) (i := i) (by simpa using e)
    show 2 ≤ dcs r + 1
    omega
  | x :: r, i + 1, j + 1, a, b, kvs, lvs, n, e, e2 => by
    have h := dcs_two (ρ := r) (i := i) (j := j) (fun z => n (by rw [z])) (by simpa using e) (by simpa using e2)
    unfold dcs
    split <;> rename_i h2 <;> first | (cases h2; done) | (cases h2; omega) | (cases h2; exact h)
/-- the only dict is changed -/
theorem StR.writeD (st : StR G K hs σ H ρ O) {i : Nat} {a : Addr} {kvs lvs : List (List L2.Key × D)} {ys : List (List L2.Key × V)} (e : ρ[i]? = some (some (.dc a kvs))) (one : dcs ρ = 1) (r : KvR K O H lvs ys) :
    StR G K hs σ (upd H a (.dT ys)) (ρ.set i (some (.dc a lvs))) O ∧ Stp O H O (upd H a (.dT ys)) := by
  obtain ⟨v, e1, ev, hO, h0, zs, hz, _⟩ := st.slot i _ e
  subst ev
  have s : Stq G O H O (upd H a (.dT ys)) := ⟨⟨fun b o eb n => by
    rw [upd_ne (fun z => by subst z; exact n hO)]; exact eb, fun b h => .inl h⟩, fun b o eb n => by
    rw [upd_ne (fun z => by subst z; exact n (.inl h0))]; exact eb⟩
  have back : ∀ {j : Nat} {tv : SV}, (ρ.set i (some (.dc a lvs)))[j]? = some (some tv) → (j = i ∧ tv = .dc a lvs) ∨ (j ≠ i ∧ ρ[j]? = some (some tv)) := fun {j tv} ej => by
    rcases set_at ej with ⟨z, e2, _⟩ | ⟨hj, e2⟩
    · cases e2; exact .inl ⟨z, rfl⟩
    · exact .inr ⟨hj, e2⟩
  refine ⟨⟨by rw [List.length_set]; exact st.len, fun j tv ej => ?_, fun j k tv uv b hjk ej ek oj ok sj sk => ?_, fun d v hp => Rep.stp s.toStp _ _ (st.held d v hp), fun b xs hp => ?_, st.outer, st.mo, fun b o eb n => ?_, fun b hb => ?_, fun j ds ej => ?_, st.alloc0⟩, s.toStp⟩
  · rcases back ej with ⟨rfl, rfl⟩ | ⟨hj, e2⟩
    · exact ⟨.ref a, e1, rfl, hO, h0, ys, upd_same, r.stp s.toStp⟩
    · obtain ⟨u, e3, q⟩ := st.slot j tv e2
      refine ⟨u, e3, ?_⟩
      cases tv with
      | dc b mvs =>
        have := dcs_two hj e2 e
        omega
      | sh d => exact Rep.stp s.toStp d u q
      | ow ds => obtain ⟨b, xs, eb, h1, h2, h3, r2⟩ := q; exact ⟨b, xs, eb, by rw [upd_ne (fun z => by subst z; rw [hz] at h1; cases h1)]; exact h1, h2, h3, RepL.stp s.toStp _ _ r2⟩
      | mu ds => obtain ⟨b, xs, eb, h1, h2, h3, r2⟩ := q; exact ⟨b, xs, eb, by rw [upd_ne (fun z => by subst z; rw [hz] at h1; cases h1)]; exact h1, h2, h3, RepL.stp s.toStp _ _ r2⟩
      | bo ds => obtain ⟨b, xs, eb, h1, r2⟩ := q; exact ⟨b, xs, eb, h1.stq s, RepL.stp s.toStp _ _ r2⟩
  · rcases back ej with ⟨_, rfl⟩ | ⟨_, e2⟩
    · cases oj
    · rcases back ek with ⟨_, rfl⟩ | ⟨_, e3⟩
      · cases ok
      · exact st.inj j k tv uv b hjk e2 e3 oj ok sj sk
  · obtain ⟨h1, h2, h3, h4⟩ := st.pins b xs hp
    refine ⟨by rw [upd_ne (fun z => by subst z; rw [hz] at h1; cases h1)]; exact h1, h2, h3, fun j tv ej o e2 => ?_⟩
    rcases back ej with ⟨_, rfl⟩ | ⟨_, e3⟩
    · cases o
    · exact h4 j tv e3 o e2
  · have z : b ≠ a := fun z => by
      subst z
      rw [eb] at h0; cases h0
    rw [upd_ne z]
    exact st.keep b o eb n
  · unfold upd
    split
    · simp
    · exact st.alloc b hb
  · rcases back ej with ⟨_, z⟩ | ⟨_, e2⟩
    · cases z
    · exact st.mus j ds e2
end
end Vx

namespace Vx
open PySem PySem.Spec PyProof.Rows L2

/-! ### wishes -/
/-- what an exception bears: the one field of its own dict -/
abbrev Pay := Option (Str × D)
def PayR (K : PySem.W.Frag) (O : Own) (H : Hp) : Pay → Option Addr → Prop
  | none, d => d = none
  | some (f, x), d => ∃ a v, d = some a ∧ H a = some (.xd [(f, v)]) ∧ Rep K O H x v
/-- an error: the name of its class -/
abbrev WxV := Str → Pay → Env → Prop
def clsV (K : PySem.W.Frag) (x : Str) : Value := .ref (He.ga K x)
abbrev QV := SV → Env → Prop
abbrev PEv := Env → QV → WxV → Prop
abbrev PTv := Env → (Bool → Env → Prop) → WxV → Prop
structure VEnds where
  nx : Env → Prop
  rt : SV → Env → Prop
  bk : Env → Prop := fun _ => False
  ct : Env → Prop := fun _ => False
  ex : WxV
abbrev PSv := Env → VEnds → Prop
def EMono (p : PEv) : Prop := ∀ (ρ : Env) (Q Q' : QV) (W W' : WxV), (∀ sv r, Q sv r → Q' sv r) → (∀ c y r, W c y r → W' c y r) → p ρ Q W → p ρ Q' W'
def TMono (p : PTv) : Prop := ∀ (ρ : Env) (Q Q' : Bool → Env → Prop) (W W' : WxV), (∀ b r, Q b r → Q' b r) → (∀ c y r, W c y r → W' c y r) → p ρ Q W → p ρ Q' W'
structure VEnds.le (D D' : VEnds) : Prop where
  nx : ∀ r, D.nx r → D'.nx r
  rt : ∀ sv r, D.rt sv r → D'.rt sv r
  bk : ∀ r, D.bk r → D'.bk r
  ct : ∀ r, D.ct r → D'.ct r
  ex : ∀ c y r, D.ex c y r → D'.ex c y r
theorem VEnds.le.refl (D : VEnds) : D.le D := ⟨fun _ h => h, fun _ _ h => h, fun _ h => h, fun _ h => h, fun _ _ _ h => h⟩
def SMono (p : PSv) : Prop := ∀ (ρ : Env) (D D' : VEnds), D.le D' → p ρ D → p ρ D'

def Up (We : Hd → WxV) : Prop := ∀ (hs hs' : Hd), (∀ p, p ∈ hs → p ∈ hs') → ∀ c y r, We hs c y r → We hs' c y r
structure Tk (X : Cx) (G : Gh) (We : Hd → WxV) : Prop where
  tk : L2.Takes X fun cls d σ H => ∃ hs ρ O x y, cls = clsV X.K x ∧ StR G X.K hs σ H ρ O ∧ PayR X.K O H y d ∧ We hs x y ρ
  po : PassesOwn (model X.prog X.w) X.A X.env X.xe
  up : Up We

section
variable (G : Gh) (K : PySem.W.Frag)
def TV (p : PEv) (We : Hd → WxV) : TE := fun σ H Q => ∃ hs ρ O, StR G K hs σ H ρ O ∧ p ρ (fun sv ρ' => ∀ v H' O', StR G K hs σ H' ρ' O' → ResR G K hs σ ρ' O' H' sv v → Q v H') (We hs)
def TTv (p : PTv) (We : Hd → WxV) : TT := fun σ H Q => ∃ hs ρ O, StR G K hs σ H ρ O ∧ p ρ (fun b ρ' => ∀ H' O', StR G K hs σ H' ρ' O' → Q b H') (We hs)
def dR (hs : Hd) (D : Ends) (W : WxV) : VEnds where
  nx := fun ρ' => ∀ σ' H' O', StR G K hs σ' H' ρ' O' → D.nx σ' H'
  rt := fun sv ρ' => ∀ v σ' H' O', StR G K hs σ' H' ρ' O' → ResR G K hs σ' ρ' O' H' sv v → D.rt v H'
  bk := fun ρ' => ∀ σ' H' O', StR G K hs σ' H' ρ' O' → D.bk σ' H'
  ct := fun ρ' => ∀ σ' H' O', StR G K hs σ' H' ρ' O' → D.ct σ' H'
  ex := W
def TSv (p : PSv) (We : Hd → WxV) : TS := fun D σ H => ∃ hs ρ O, StR G K hs σ H ρ O ∧ p ρ (dR G K hs D (We hs))
end
/-- an expression's value-level reading -/
structure VE (X : Cx) (G : Gh) (e : Expr) (p : PEv) : Prop where
  mono : EMono p
  run : ∀ We, Tk X G We → PE X e (TV G X.K p We)
structure VT (X : Cx) (G : Gh) (e : Expr) (p : PTv) : Prop where
  mono : TMono p
  run : ∀ We, Tk X G We → PT X e (TTv G X.K p We)
structure VW (X : Cx) (G : Gh) (e : Expr) (p : PTv) : Prop where
  mono : TMono p
  run : ∀ We, Tk X G We → PW X e (TTv G X.K p We)
structure VS (X : Cx) (G : Gh) (st : Stmt) (p : PSv) : Prop where
  mono : SMono p
  run : ∀ We, Tk X G We → PS X st (TSv G X.K p We)
structure VSs (X : Cx) (G : Gh) (st : List Stmt) (p : PSv) : Prop where
  mono : SMono p
  run : ∀ We, Tk X G We → PSs X st (TSv G X.K p We)
theorem _root_.L2.PE.weak {X : Cx} {e : Expr} {t t' : TE} (h : PE X e t) (hw : ∀ σ H Q, t' σ H Q → t σ H Q) : PE X e t' := ⟨fun pins s σ H Q I q => h.run pins s σ H Q I (hw σ H Q q)⟩
theorem _root_.L2.PT.weak {X : Cx} {e : Expr} {t t' : TT} (h : PT X e t) (hw : ∀ σ H Q, t' σ H Q → t σ H Q) : PT X e t' := ⟨fun pins s σ H Q I q => h.run pins s σ H Q I (hw σ H Q q)⟩
theorem _root_.L2.PW.weak {X : Cx} {e : Expr} {t t' : TT} (h : PW X e t) (hw : ∀ σ H Q, t' σ H Q → t σ H Q) : PW X e t' := ⟨fun wh pins s σ H Q I q => h.run wh pins s σ H Q I (hw σ H Q q)⟩
theorem _root_.L2.PS.weak {X : Cx} {e : Stmt} {t t' : TS} (h : PS X e t) (hw : ∀ D σ H, t' D σ H → t D σ H) : PS X e t' := ⟨fun pins s σ H D I q => h.run pins s σ H D I (hw D σ H q)⟩
theorem _root_.L2.PSs.weak {X : Cx} {e : List Stmt} {t t' : TS} (h : PSs X e t) (hw : ∀ D σ H, t' D σ H → t D σ H) : PSs X e t' := ⟨fun pins s σ H D I q => h.run pins s σ H D I (hw D σ H q)⟩
theorem _root_.L2.PA.weak {X : Cx} {e : List Expr} {t t' : TA} (h : PA X e t) (hw : ∀ σ H Q, t' σ H Q → t σ H Q) : PA X e t' := ⟨fun pos pins s σ H Q I q => h.run pos pins s σ H Q I (hw σ H Q q)⟩

/-! ### operands -/
/-- an operand: a value, or a name that is only read -/
inductive OpP where
  | val (p : PEv) | rd (i : Nat) | mt (i : Nat)
inductive AV where
  | v (d : D) | b (i : Nat) | m (i : Nat)
def slotOf (ρ : Env) (i : Nat) : Option SV := (ρ[i]?).getD none
theorem slotOf_some {ρ : Env} {i : Nat} {sv : SV} (h : slotOf ρ i = some sv) : ρ[i]? = some (some sv) := by
  unfold slotOf at h
  cases e : ρ[i]? with
  | none => rw [e] at h; cases h
  | some o => rw [e] at h; rw [← h]; rfl
def vRd (i : Nat) (ρ : Env) (k : SV → Prop) : Prop := match slotOf ρ i with
  | some sv => k sv
  | none => False
theorem vRd_some {i : Nat} {ρ : Env} {k : SV → Prop} (h : vRd i ρ k) : ∃ sv, ρ[i]? = some (some sv) ∧ k sv := by
  unfold vRd at h
  cases e : slotOf ρ i with
  | none => rw [e] at h; exact h.elim
  | some sv => rw [e] at h; exact ⟨sv, slotOf_some e, h⟩
theorem vRd_mono {i : Nat} {ρ : Env} {k k' : SV → Prop} (hk : ∀ sv, k sv → k' sv) (h : vRd i ρ k) : vRd i ρ k' := by
  unfold vRd at h ⊢
  cases e : slotOf ρ i with
  | none => rw [e] at h; exact h.elim
  | some sv => rw [e] at h; exact hk sv h
def vOp : OpP → Env → (AV → Env → Prop) → WxV → Prop
  | .val p, ρ, k, W => p ρ (fun sv ρ' => k (.v sv.fz) ρ') W
  | .rd i, ρ, k, _ => vRd i ρ fun _ => k (.b i) ρ
  | .mt i, ρ, k, _ => vRd i ρ fun _ => k (.m i) ρ
def AV.get (ρ : Env) : AV → Option D
  | .v d => some d
  | .b i => (slotOf ρ i).map SV.fz
  | .m _ => none
def AvR (σ : L2.St) (K : PySem.W.Frag) (O : Own) (H : Hp) : AV → V → Prop
  | .v d, v => Rep K O H d v
  | .b i, v => σ[i]? = some (some v)
  | .m i, v => σ[i]? = some (some v)
def AV.hold (x : V) (hs : Hd) : AV → Hd
  | .v d => HdI.val d x :: hs
  | .b _ => hs
  | .m _ => hs
def OMono (p : OpP) : Prop := ∀ (ρ : Env) (k k' : AV → Env → Prop) (W W' : WxV), (∀ a r, k a r → k' a r) → (∀ c y r, W c y r → W' c y r) → vOp p ρ k W → vOp p ρ k' W'
theorem EMono.op {p : PEv} (h : EMono p) : OMono (.val p) := fun ρ k k' W W' hk hW => h ρ _ _ W W' (fun sv r => hk _ r) hW
theorem OMono.mt (i : Nat) : OMono (.mt i) := fun ρ k k' W W' hk hW h => vRd_mono (fun _ q => hk _ _ q) h
theorem OMono.rd (i : Nat) : OMono (.rd i) := fun ρ k k' W W' hk hW h => vRd_mono (fun _ q => hk _ _ q) h
section
variable {K : PySem.W.Frag} {G : Gh} {hs : Hd} {σ : L2.St} {H H' : Hp} {ρ ρ' : Env} {O O' : Own}
theorem StR.holdA (st : StR G K hs σ H ρ O) {a : AV} {x : V} (h : AvR σ K O H a x) : StR G K (a.hold x hs) σ H ρ O := by
  cases a with
  | v d => exact st.hold h
  | b i => exact st
  | m i => exact st
theorem hold_sub {a : AV} {x : V} : ∀ p, p ∈ hs → p ∈ a.hold x hs := fun p hp => by
  cases a with
  | v d => exact List.mem_cons_of_mem _ hp
  | b i => exact hp
  | m i => exact hp
theorem StR.heldA (st : StR G K hs σ H ρ O) {a : AV} {x : V} {O1 : Own} {H1 : Hp} (h : AvR σ K O1 H1 a x) (hm : ∀ p, p ∈ a.hold x [] → p ∈ hs) : AvR σ K O H a x := by
  cases a with
  | v d => exact st.held d x (hm _ List.mem_cons_self)
  | b i => exact h
  | m i => exact h
theorem hold_nil {a : AV} {x : V} : ∀ p, p ∈ a.hold x [] → p ∈ a.hold x hs := fun p hp => by
  cases a with
  | v d =>
    rcases List.mem_cons.mp hp with e | hp
    · rw [e]; exact List.mem_cons_self
    · cases hp
  | b i => cases hp
  | m i => cases hp
theorem StR.view (st : StR G K hs σ H ρ O) {a : AV} {x : V} {d : D} (h : AvR σ K O H a x) (e : a.get ρ = some d) : View K O H d x := by
  cases a with
  | m i => cases e
  | v d' =>
    cases e
    exact Rep.view h
  | b i =>
    have e' : (slotOf ρ i).map SV.fz = some d := e
    cases hsv : slotOf ρ i with
    | none => rw [hsv] at e'; cases e'
    | some sv =>
      rw [hsv] at e'
      cases e'
      obtain ⟨v, e1, r⟩ := st.slot i sv (slotOf_some hsv)
      have h' : σ[i]? = some (some x) := h
      rw [e1] at h'
      cases h'
      exact r.view
end
section
variable (G : Gh) (K : PySem.W.Frag)
def TOp (p : OpP) (We : Hd → WxV) : TE := fun σ H Q => ∃ hs ρ O, StR G K hs σ H ρ O ∧ vOp p ρ (fun a ρ' => ∀ v H' O', StR G K hs σ H' ρ' O' → AvR σ K O' H' a v → Q v H') (We hs)
end
structure VO (X : Cx) (G : Gh) (e : Expr) (p : OpP) : Prop where
  mono : OMono p
  run : ∀ We, Tk X G We → PE X e (TOp G X.K p We)
section
variable {X : Cx} {G : Gh} {e : Expr} {p : PEv} {We : Hd → WxV}
theorem vo_val (h : VE X G e p) : VO X G e (.val p) := by
  refine ⟨h.mono.op, fun We tk => (h.run We tk).weak fun σ H Q q => ?_⟩
  obtain ⟨hs, ρ, O, st, q⟩ := q
  refine ⟨hs, ρ, O, st, h.mono ρ _ _ _ _ (fun sv r k v H' O' st' r' => ?_) (fun _ _ _ w => w) q⟩
  obtain ⟨O2, st2, _, r2⟩ := ResR.freeze st' r'
  exact k v H' O2 st2 r2
theorem vo_mt {i : Nat} (h : PE X e (tVar i)) : VO X G e (.mt i) := by
  refine ⟨OMono.mt i, fun We tk => h.weak fun σ H Q q => ?_⟩
  obtain ⟨hs, ρ, O, st, q⟩ := q
  obtain ⟨sv, hsv, q⟩ := vRd_some q
  obtain ⟨v, e1, r⟩ := st.slot i sv hsv
  exact ⟨v, e1, q v H O st e1⟩
theorem vo_rd {i : Nat} (h : PE X e (tVar i)) : VO X G e (.rd i) := by
  refine ⟨OMono.rd i, fun We tk => h.weak fun σ H Q q => ?_⟩
  obtain ⟨hs, ρ, O, st, q⟩ := q
  obtain ⟨sv, hsv, q⟩ := vRd_some q
  obtain ⟨v, e1, r⟩ := st.slot i sv hsv
  exact ⟨v, e1, q v H O st e1⟩

/-! ### lists of operands -/
def vOps : List OpP → Env → (List AV → Env → Prop) → WxV → Prop
  | [], ρ, k, _ => k [] ρ
  | p :: ps, ρ, k, W => vOp p ρ (fun a ρ1 => vOps ps ρ1 (fun as ρ2 => k (a :: as) ρ2) W) W
def AvsR (σ : L2.St) (K : PySem.W.Frag) (O : Own) (H : Hp) : List AV → List V → Prop
  | [], vs => vs = []
  | a :: as, vs => ∃ v r, vs = v :: r ∧ AvR σ K O H a v ∧ AvsR σ K O H as r
def LMono (ps : List OpP) : Prop := ∀ (ρ : Env) (k k' : List AV → Env → Prop) (W W' : WxV), (∀ a r, k a r → k' a r) → (∀ c y r, W c y r → W' c y r) → vOps ps ρ k W → vOps ps ρ k' W'
end
section
variable (G : Gh) (K : PySem.W.Frag)
def TOps (ps : List OpP) (We : Hd → WxV) : TA := fun σ H Q => ∃ hs ρ O, StR G K hs σ H ρ O ∧ vOps ps ρ (fun as ρ' => ∀ vs H' O', StR G K hs σ H' ρ' O' → AvsR σ K O' H' as vs → Q vs H') (We hs)
end
structure VA (X : Cx) (G : Gh) (es : List Expr) (ps : List OpP) : Prop where
  mono : LMono ps
  run : ∀ We, Tk X G We → PA X es (TOps G X.K ps We)
section
variable {X : Cx} {G : Gh} {e : Expr} {es : List Expr} {po : OpP} {ps : List OpP} {We : Hd → WxV} {pos : Pos}
theorem va_nil : VA X G [] [] := ⟨fun ρ k k' W W' hk hW h => hk _ _ h, fun We tk => pa_nil.weak fun σ H Q ⟨hs, ρ, O, st, q⟩ => q [] H O st rfl⟩
theorem va_cons (ha : VO X G e po) (hr : VA X G es ps) (hs : starEach (e :: es) X.env = (false, eval e X.env) :: starEach es X.env := by rfl) : VA X G (e :: es) (po :: ps) := by
  refine ⟨fun ρ k k' W W' hk hW h => ?_, fun We tk => (pa_cons (ha.run We tk) (hr.run We tk) hs).weak fun σ H Q ⟨hs, ρ, O, st, q⟩ => ?_⟩
  · exact ha.mono ρ _ _ W W' (fun a r q => hr.mono r _ _ W W' (fun as r2 q2 => hk _ _ q2) hW q) hW h
  · refine ⟨hs, ρ, O, st, ha.mono ρ _ _ _ _ (fun a r q x H1 O1 st1 r1 => ?_) (fun _ _ _ w => w) q⟩
    refine ⟨a.hold x hs, r, O1, st1.holdA r1, hr.mono r _ _ _ _ (fun as r2 q2 ys H2 O2 st2 r2 => ?_) (tk.up _ _ hold_sub) q⟩
    have st2' := st2.fewer (hs' := hs) hold_sub
    exact q2 (x :: ys) H2 O2 st2' ⟨x, ys, rfl, st2.heldA (a := a) r1 hold_nil, r2⟩
end

/-! ### binary operators -/
abbrev F2 := D → D → (SV → Prop) → Prop
def F2.Mono (f : F2) : Prop := ∀ d e k k', (∀ sv, k sv → k' sv) → f d e k → f d e k'
def OpV (X : Cx) (G : Gh) (r : R2) (f : F2) : Prop := ∀ (σ : L2.St) (hs : Hd) (ρ : Env) (O : Own) (H : Hp) (x y : V) (d e : D) (Q : VK), StR G X.K hs σ H ρ O → View X.K O H d x → View X.K O H e y →
  f d e (fun sv => ∀ v H' O', StR G X.K hs σ H' ρ O' → ResR G X.K hs σ ρ O' H' sv v → Q v H') → r x y H Q
def vBin (f : F2) (pa pb : OpP) : PEv := fun ρ Q W => vOp pa ρ (fun x ρ1 => vOp pb ρ1 (fun y ρ2 => match x.get ρ2, y.get ρ2 with
  | some d, some e => f d e fun sv => Q sv ρ2
  | _, _ => False) W) W
section
variable {X : Cx} {G : Gh} {a b : Expr} {pa pb : OpP} {pos : Pos} {f : F2} {r : R2}
theorem vBin_mono (fm : f.Mono) (ha : OMono pa) (hb : OMono pb) : EMono (vBin f pa pb) := fun ρ Q Q' W W' hQ hW h => by
  refine ha ρ _ _ W W' (fun x r q => hb r _ _ W W' (fun y r2 q2 => ?_) hW q) hW h
  split at q2
  · exact fm _ _ _ _ (fun sv q3 => hQ _ _ q3) q2
  · exact q2.elim
theorem tOp_of {We : Hd → WxV} (fm : f.Mono) (hv : OpV X G r f) (ha : OMono pa) (hb : OMono pb) (up : Up We) {σ : L2.St} {H : Hp} {Q : VK} (q : TV G X.K (vBin f pa pb) We σ H Q) : tOp r (TOp G X.K pa We) (TOp G X.K pb We) σ H Q := by
  obtain ⟨hs, ρ, O, st, q⟩ := q
  refine ⟨hs, ρ, O, st, ha ρ _ _ _ _ (fun x r1 q x' H1 O1 st1 rx => ?_) (fun _ _ _ w => w) q⟩
  refine ⟨x.hold x' hs, r1, O1, st1.holdA rx, hb r1 _ _ _ _ (fun y r2 q2 y' H2 O2 st2 ry => ?_) (up _ _ hold_sub) q⟩
  have rx2 : AvR σ X.K O2 H2 x x' := st2.heldA rx hold_nil
  split at q2
  · rename_i d e hd he
    have st3 := st2.fewer (hs' := hs) hold_sub
    exact hv σ hs r2 O2 H2 x' y' d e Q st3 (st2.view rx2 hd) (st2.view ry he) q2
  · exact q2.elim
theorem ve_bin {op : Operator} (ho : OpR X (binaryOp op) r) (hv : OpV X G r f) (fm : f.Mono) (ha : VO X G a pa) (hb : VO X G b pb) : VE X G (.BinOp a op b pos) (vBin f pa pb) :=
  ⟨vBin_mono fm ha.mono hb.mono, fun We tk => (pe_op ho (ha.run We tk) (hb.run We tk)).weak fun σ H Q q => tOp_of fm hv ha.mono hb.mono tk.up q⟩
theorem ve_cmp {op : CmpOp} (ho : OpR X (compareOp op) r) (hm : behindInMarks op b = false) (hv : OpV X G r f) (fm : f.Mono) (ha : VO X G a pa) (hb : VO X G b pb) : VE X G (.Compare a [op] [b] pos) (vBin f pa pb) :=
  ⟨vBin_mono fm ha.mono hb.mono, fun We tk => (pe_cmpR ho (ha.run We tk) (hb.run We tk) hm).weak fun σ H Q q => tOp_of fm hv ha.mono hb.mono tk.up q⟩
/-- a value that is True or False, as a test -/
def vTest (p : PEv) : PTv := fun ρ Q W => p ρ (fun sv ρ' => match sv with
  | .sh (.bl b) => Q b ρ'
  | _ => False) W
theorem vTest_mono {p : PEv} (h : EMono p) : TMono (vTest p) := fun ρ Q Q' W W' hQ hW q => h ρ _ _ W W' (fun sv r q => by
  split at q
  · exact hQ _ _ q
  · exact q.elim) hW q
theorem tTest_of {We : Hd → WxV} {K : PySem.W.Frag} {p : PEv} (pm : EMono p) {σ : L2.St} {H : Hp} {Q : Bool → Hp → Prop} (q : TTv G K (vTest p) We σ H Q) : tTest (TV G K p We) σ H Q := by
  obtain ⟨hs, ρ, O, st, q⟩ := q
  refine ⟨hs, ρ, O, st, pm ρ _ _ _ _ (fun sv r q v H' O' st' rv => ?_) (fun _ _ _ w => w) q⟩
  split at q
  · exact ⟨_, (show v = V.bl _ from by have z := rv; unfold ResR Rep at z; exact z), q H' O' st'⟩
  · exact q.elim
theorem vt_cmp {op : CmpOp} (ho : OpR X (compareOp op) r) (hm : behindInMarks op b = false) (hv : OpV X G r f) (fm : f.Mono) (ha : VO X G a pa) (hb : VO X G b pb) : VT X G (.Compare a [op] [b] pos) (vTest (vBin f pa pb)) :=
  ⟨vTest_mono (vBin_mono fm ha.mono hb.mono), fun We tk => (pt_cmpR ho (ha.run We tk) (hb.run We tk) hm).weak fun σ H Q q => by
    have q' := tTest_of (vBin_mono fm ha.mono hb.mono) q
    exact tOp_of fm hv ha.mono hb.mono tk.up q'⟩
end
end Vx

namespace Vx
open PySem PySem.Spec PyProof.Rows L2

/-! ### data as the library's -/
mutual
def D.py : D → PyData
  | .non => .none
  | .bl b => .bool b
  | .int i => .int i
  | .str x => .str x
  | .tup ds => .tuple (D.pyL ds)
  | .lst ds => .list (D.pyL ds)
  | .ob _ => .none
  | .rc _ _ _ => .none
def D.pyL : List D → List PyData
  | [] => []
  | d :: ds => d.py :: D.pyL ds
end
mutual
/-- no object in it -/
def D.plain : D → Bool
  | .ob _ => false
  | .rc _ _ _ => false
  | .str x => PyData.strOk x
  | .tup ds => D.plainL ds
  | .lst ds => D.plainL ds
  | _ => true
def D.plainL : List D → Bool
  | [] => true
  | d :: ds => d.plain && D.plainL ds
end
section
variable {K : PySem.W.Frag} {O : Own} {H : Hp}
mutual
theorem Rep.dp : ∀ (d : D) (v : V), Rep K O H d v → d.plain = true → Dp K H v d.py
  | .non, v, h, _ => by rw [rep_non.mp h]; exact .non
  | .bl b, v, h, _ => by rw [rep_bl.mp h]; exact .bl b
  | .int i, v, h, _ => by rw [rep_int.mp h]; exact .int i
  | .str x, v, h, _ => by rw [rep_str.mp h]; exact .str x
  | .ob a, v, h, p => by cases p
  | .rc _ _ _, v, h, p => by cases p
  | .tup ds, v, h, p => by
    obtain ⟨a, xs, rfl, t, r⟩ := rep_tup.mp h
    exact .tup t.sq (RepL.dp ds xs r p)
  | .lst ds, v, h, p => by
    obtain ⟨a, xs, rfl, t, r⟩ := rep_lst.mp h
    exact .lst t.sq (RepL.dp ds xs r p)
theorem RepL.dp : ∀ (ds : List D) (xs : List V), RepL K O H ds xs → D.plainL ds = true → DpAll K H xs (D.pyL ds)
  | [], xs, h, _ => by rw [repL_nil.mp h]; exact .nil
  | d :: ds, xs, h, p => by
    obtain ⟨y, ys, rfl, r, t⟩ := repL_cons.mp h
    have p' : (d.plain && D.plainL ds) = true := p
    rw [Bool.and_eq_true] at p'
    exact .cons (Rep.dp d y r p'.1) (RepL.dp ds ys t p'.2)
end
theorem View.dp {d : D} {v : V} (h : View K O H d v) (p : d.plain = true) : Dp K H v d.py := by
  cases d with
  | lst ds =>
    obtain ⟨a, xs, rfl, s, r⟩ := h
    exact .lst s (RepL.dp ds xs r p)
  | non => exact Rep.dp (O := O) _ _ h p
  | bl _ => exact Rep.dp (O := O) _ _ h p
  | int _ => exact Rep.dp (O := O) _ _ h p
  | str _ => exact Rep.dp (O := O) _ _ h p
  | tup _ => exact Rep.dp (O := O) _ _ h p
  | ob _ => exact Rep.dp (O := O) _ _ h p
  | rc _ _ _ => exact Rep.dp (O := O) _ _ h p
mutual
theorem D.canLay : ∀ d : D, d.plain = true → d.py.canLay0 = true
  | .non, _ => by simp [D.py, PyData.canLay0]
  | .bl b, _ => by simp [D.py, PyData.canLay0]
  | .int i, _ => by simp [D.py, PyData.canLay0]
  | .str x, h => by simp only [D.py, PyData.canLay0]; exact h
  | .ob a, _ => by simp [D.py, PyData.canLay0]
  | .rc _ _ _, _ => by simp [D.py, PyData.canLay0]
  | .tup ds, h => by simp only [D.py, PyData.canLay0]; exact D.canLayL ds h
  | .lst ds, h => by simp only [D.py, PyData.canLay0]; exact D.canLayL ds h
theorem D.canLayL : ∀ ds : List D, D.plainL ds = true → PyData.canLayAll0 (D.pyL ds) = true
  | [], _ => by simp [D.pyL, PyData.canLayAll0]
  | d :: ds, h => by
    have h' : (d.plain && D.plainL ds) = true := h
    rw [Bool.and_eq_true] at h'
    simp only [D.pyL, PyData.canLayAll0, D.canLay d h'.1, D.canLayL ds h'.2, Bool.and_self]
end
def D.depth (d : D) : Nat := d.py.depth
/-- what == asks of its sides -/
def D.ok (d : D) : Prop := d.plain = true ∧ d.depth ≤ 64
theorem D.shaped {d : D} (h : d.ok) : SeqAt.shaped d.py = true := by
  unfold SeqAt.shaped
  rw [D.canLay d h.1, Bool.true_and]
  exact decide_eq_true h.2
def D.eqv (d e : D) : Bool := PyData.eqv d.py e.py
theorem view_int {i : Int} {v : V} (h : View K O H (.int i) v) : v = .int i := by
  have h' : Rep K O H (.int i) v := h
  exact rep_int.mp h'
theorem view_bl {b : Bool} {v : V} (h : View K O H (.bl b) v) : v = .bl b := by
  have h' : Rep K O H (.bl b) v := h
  exact rep_bl.mp h'
theorem view_str {x : Str} {v : V} (h : View K O H (.str x) v) : v = .str x := by
  have h' : Rep K O H (.str x) v := h
  exact rep_str.mp h'
theorem view_non {v : V} (h : View K O H .non v) : v = .non := by
  have h' : Rep K O H .non v := h
  exact rep_non.mp h'
theorem view_tup {ds : List D} {v : V} (h : View K O H (.tup ds) v) : ∃ a xs, v = .ref a ∧ OkT K O H a xs ∧ RepL K O H ds xs := by
  have h' : Rep K O H (.tup ds) v := h
  exact rep_tup.mp h'
theorem view_lst {ds : List D} {v : V} (h : View K O H (.lst ds) v) : ∃ a xs, v = .ref a ∧ SqL K H a xs ∧ RepL K O H ds xs := h
section
variable {G : Gh} {σ : L2.St} {ρ : Env}
theorem res_int {i : Int} : ResR G K hs σ ρ O H (.sh (.int i)) (.int i) := by
  show Rep K O H (.int i) (.int i)
  exact rep_int.mpr rfl
theorem res_bl {b : Bool} : ResR G K hs σ ρ O H (.sh (.bl b)) (.bl b) := by
  show Rep K O H (.bl b) (.bl b)
  exact rep_bl.mpr rfl
theorem res_str {x : Str} : ResR G K hs σ ρ O H (.sh (.str x)) (.str x) := by
  show Rep K O H (.str x) (.str x)
  exact rep_str.mpr rfl
theorem res_non : ResR G K hs σ ρ O H (.sh .non) .non := by
  show Rep K O H .non .non
  exact rep_non.mpr rfl
theorem res_tup {ds : List D} {a : Addr} {xs : List V} (h : OkT K O H a xs) (r : RepL K O H ds xs) : ResR G K hs σ ρ O H (.sh (.tup ds)) (.ref a) := by
  show Rep K O H (.tup ds) (.ref a)
  exact rep_tup.mpr ⟨a, xs, rfl, h, r⟩
end
theorem lineN {n : Nat} (h : n ≤ 16777216) : n ≤ sizeLine := by rw [sizeLine_eq]; exact h
end

/-! ### list + list, whatever is read -/
section
variable {X : Cx}
def rCatL (K : PySem.W.Frag) : R2 := fun x y H Q => ∃ l b xs zs, x = .ref l ∧ y = .ref b ∧ SqL K H l xs ∧ SqL K H b zs ∧ xs.length + zs.length ≤ sizeLine ∧ ∀ p, H p = none → Q (.ref p) (upd H p (.lst (xs ++ zs)))
theorem op_catL : OpR X (binaryOp .Add) (rCatL X.K) := by
  intro pins s σ H x y v u Q I rx ry h
  obtain ⟨l, b, xs, zs, rfl, rfl, hH, hB, hz, q⟩ := h
  cases rx
  cases ry
  obtain ⟨its, r, ⟨o, n, ho, hc, _, hd⟩, _⟩ := I.list hH
  obtain ⟨its2, r2, ⟨o2, n2, ho2, hc2, _, hd2⟩, _⟩ := I.list hB
  have hl := r.length
  have hl2 := r2.length
  obtain ⟨cls, dd, data, sl⟩ := o
  obtain ⟨cls2, dd2, data2, sl2⟩ := o2
  simp only at hc hd hc2 hd2
  subst hc hd hc2 hd2
  have e : its.toArray ++ its2.toArray = (its ++ its2).toArray := by simp
  refine PySem.concat_meets ⟨_, ho, rfl⟩ ⟨_, ho2, rfl⟩ noFill_list_add seq_list_add PySem.F.slot_list_add PySem.F.entry_list_add (PySem.F.args_list_add_2 _ _) (PyProof.Rows.list_addW l b its.toArray its2.toArray n n2 dd dd2 sl sl2 (by simp only [List.size_toArray]; omega)) ⟨ho, ho2, ?_⟩
  rw [e]
  exact ⟨.ref _, _, I.lnew (t' := s.toks) (r.append r2) (by rw [List.length_append]; omega), rfl, q _ I.fresh⟩
end

/-! ### the value-level operators -/
def fAdd : F2
  | .int i, .int j, k => k (.sh (.int (i + j)))
  | .str a, .str b, k => a.length + b.length ≤ 16777216 ∧ k (.sh (.str (a ++ b)))
  | .lst a, .lst b, k => a.length + b.length ≤ 16777216 ∧ k (.ow (a ++ b))
  | .tup a, .tup b, k => a.length + b.length ≤ 16777216 ∧ k (.sh (.tup (a ++ b)))
  | _, _, _ => False
theorem fAdd_mono : F2.Mono fAdd := by
  intro d e k k' hk h
  unfold fAdd at h ⊢
  split at h
  · exact hk _ h
  · exact ⟨h.1, hk _ h.2⟩
  · exact ⟨h.1, hk _ h.2⟩
  · exact ⟨h.1, hk _ h.2⟩
  · exact h.elim
section
variable {X : Cx} {G : Gh}
abbrev rAddV (K : PySem.W.Frag) : R2 := fun x y H Q => rI0 (fun i j => .int (i + j)) x y H Q ∨ (∃ i j, x = .str i ∧ y = .str j ∧ i.length + j.length ≤ sizeLine ∧ Q (.str (i ++ j)) H) ∨ rCatL K x y H Q ∨ rCatA K x y H Q
theorem op_addV : OpR X (binaryOp .Add) (rAddV X.K) := op_add.or (op_add_str.or (op_catL.or op_catA))
theorem ov_add : OpV X G (rAddV X.K) fAdd := by
  intro σ hs ρ O H x y d e Q st vx vy hf
  unfold fAdd at hf
  split at hf
  · rw [view_int vx, view_int vy]
    exact .inl ⟨_, _, rfl, rfl, hf _ H O st res_int⟩
  · rw [view_str vx, view_str vy]
    exact .inr (.inl ⟨_, _, rfl, rfl, lineN hf.1, hf.2 _ H O st res_str⟩)
  · obtain ⟨a, xs, rfl, ta, ra⟩ := view_lst vx
    obtain ⟨b, ys, rfl, tb, rb⟩ := view_lst vy
    refine .inr (.inr (.inl ⟨a, b, xs, ys, rfl, rfl, ta, tb, lineN (by rw [ra.length, rb.length]; exact hf.1), fun p hp => ?_⟩))
    obtain ⟨st', r'⟩ := st.resLst hp (ra.append rb)
    exact hf.2 _ _ _ st' r'
  · obtain ⟨a, xs, rfl, ta, ra⟩ := view_tup vx
    obtain ⟨b, ys, rfl, tb, rb⟩ := view_tup vy
    refine .inr (.inr (.inr ⟨a, b, xs, ys, rfl, rfl, ta.sq, tb.sq, lineN (by rw [ra.length, rb.length]; exact hf.1), fun e => ?_, fun _ e => ?_, fun _ _ p hp => ?_⟩))
    · subst e
      have e0 : ∀ {ds : List D}, RepL X.K O H ds [] → ds = [] := fun {ds} h => by
        cases ds with
        | nil => rfl
        | cons d ds => obtain ⟨_, _, z, _⟩ := repL_cons.mp h; cases z
      rw [e0 ra, List.nil_append] at hf
      exact hf.2 _ H O st (res_tup tb rb)
    · subst e
      have e0 : ∀ {ds : List D}, RepL X.K O H ds [] → ds = [] := fun {ds} h => by
        cases ds with
        | nil => rfl
        | cons d ds => obtain ⟨_, _, z, _⟩ := repL_cons.mp h; cases z
      rw [e0 rb, List.append_nil] at hf
      exact hf.2 _ H O st (res_tup ta ra)
    · obtain ⟨st', r'⟩ := st.resTup hp (ra.append rb)
      exact hf.2 _ _ _ st' r'
  · exact hf.elim
/-- operators of two ints -/
def fII (C : Int → Int → Prop) (g : Int → Int → Int) : F2
  | .int i, .int j, k => C i j ∧ k (.sh (.int (g i j)))
  | _, _, _ => False
def fI0 (g : Int → Int → Int) : F2
  | .int i, .int j, k => k (.sh (.int (g i j)))
  | _, _, _ => False
def fIB (g : Int → Int → Bool) : F2
  | .int i, .int j, k => k (.sh (.bl (g i j)))
  | _, _, _ => False
theorem fII_mono {C g} : F2.Mono (fII C g) := by
  intro d e k k' hk h
  unfold fII at h ⊢
  split at h
  · exact ⟨h.1, hk _ h.2⟩
  · exact h.elim
theorem fI0_mono {g} : F2.Mono (fI0 g) := by
  intro d e k k' hk h
  unfold fI0 at h ⊢
  split at h
  · exact hk _ h
  · exact h.elim
theorem fIB_mono {g} : F2.Mono (fIB g) := by
  intro d e k k' hk h
  unfold fIB at h ⊢
  split at h
  · exact hk _ h
  · exact h.elim
theorem ov_II {C g} : OpV X G (rI C fun i j => .int (g i j)) (fII C g) := by
  intro σ hs ρ O H x y d e Q st vx vy hf
  unfold fII at hf
  split at hf
  · rw [view_int vx, view_int vy]
    exact ⟨_, _, rfl, rfl, hf.1, hf.2 _ H O st res_int⟩
  · exact hf.elim
theorem ov_I0 {g} : OpV X G (rI0 fun i j => .int (g i j)) (fI0 g) := by
  intro σ hs ρ O H x y d e Q st vx vy hf
  unfold fI0 at hf
  split at hf
  · rw [view_int vx, view_int vy]
    exact ⟨_, _, rfl, rfl, hf _ H O st res_int⟩
  · exact hf.elim
theorem ov_IB {g} : OpV X G (rI0 fun i j => .bl (g i j)) (fIB g) := by
  intro σ hs ρ O H x y d e Q st vx vy hf
  unfold fIB at hf
  split at hf
  · rw [view_int vx, view_int vy]
    exact ⟨_, _, rfl, rfl, hf _ H O st res_bl⟩
  · exact hf.elim
abbrev fSub := fI0 fun i j => i - j
abbrev fMulI := fII CMul fun i j => i * j
abbrev fDiv := fII CDivW fun i j => i / j
abbrev fMod := fII (fun _ j => 0 < j) fun i j => i % j
abbrev fPow := fII CPow fun i j => i ^ j.toNat
abbrev fXor := fI0 Builtin.bitXor
abbrev fAnd := fI0 Builtin.bitAnd
abbrev fLt := fIB fun i j => decide (i < j)
abbrev fLe := fIB fun i j => decide (i ≤ j)
abbrev fGt := fIB fun i j => decide (j < i)
abbrev fGe := fIB fun i j => decide (j ≤ i)
/-! ### == and != -/
def fEqG (g : Bool → Bool) : F2
  | .int i, .int j, k => k (.sh (.bl (g (decide (i = j)))))
  | .str a, .str b, k => k (.sh (.bl (g (decide (a = b)))))
  | .bl a, .bl b, k => k (.sh (.bl (g (decide (a = b)))))
  | d, e, k => d.ok ∧ e.ok ∧ k (.sh (.bl (g (D.eqv d e))))
theorem fEqG_mono {g} : F2.Mono (fEqG g) := by
  intro d e k k' hk h
  unfold fEqG at h ⊢
  split at h
  · exact hk _ h
  · exact hk _ h
  · exact hk _ h
  · exact ⟨h.1, h.2.1, hk _ h.2.2⟩
abbrev fEq := fEqG id
abbrev fNe := fEqG not
abbrev rEqV (K : PySem.W.Frag) : R2 := fun x y H Q => rEq x y H Q ∨ rEqD K x y H Q
abbrev rNeV (K : PySem.W.Frag) : R2 := fun x y H Q => rNe x y H Q ∨ rNeD K x y H Q
theorem ov_eq : OpV X G (rEqV X.K) fEq := by
  intro σ hs ρ O H x y d e Q st vx vy hf
  unfold fEq fEqG at hf
  split at hf
  · rw [view_int vx, view_int vy]
    refine .inl ⟨rfl, ?_⟩
    rw [dec_int, Bool.beq_eq_decide_eq]
    exact hf _ H O st res_bl
  · rw [view_str vx, view_str vy]
    refine .inl ⟨rfl, ?_⟩
    rw [dec_str, Bool.beq_eq_decide_eq]
    exact hf _ H O st res_bl
  · rw [view_bl vx, view_bl vy]
    refine .inl ⟨rfl, ?_⟩
    rw [dec_bl, Bool.beq_eq_decide_eq]
    exact hf _ H O st res_bl
  · exact .inr ⟨_, _, vx.dp hf.1.1, vy.dp hf.2.1.1, D.shaped hf.1, D.shaped hf.2.1, hf.2.2 _ H O st res_bl⟩
theorem ov_ne : OpV X G (rNeV X.K) fNe := by
  intro σ hs ρ O H x y d e Q st vx vy hf
  unfold fNe fEqG at hf
  split at hf
  · rw [view_int vx, view_int vy]
    refine .inl ⟨rfl, ?_⟩
    rw [dec_int, Bool.beq_eq_decide_eq]
    exact hf _ H O st res_bl
  · rw [view_str vx, view_str vy]
    refine .inl ⟨rfl, ?_⟩
    rw [dec_str, Bool.beq_eq_decide_eq]
    exact hf _ H O st res_bl
  · rw [view_bl vx, view_bl vy]
    refine .inl ⟨rfl, ?_⟩
    rw [dec_bl, Bool.beq_eq_decide_eq]
    exact hf _ H O st res_bl
  · exact .inr ⟨_, _, vx.dp hf.1.1, vy.dp hf.2.1.1, D.shaped hf.1, D.shaped hf.2.1, hf.2.2 _ H O st res_bl⟩
end
end Vx

namespace Vx
open PySem PySem.Spec PyProof.Rows L2

/-! ### constants, names -/
def vC (d : D) : PEv := fun ρ Q _ => Q (.sh d) ρ
theorem vC_mono {d : D} : EMono (vC d) := fun ρ Q Q' W W' hQ _ h => hQ _ _ h
section
variable {X : Cx} {G : Gh} {We : Hd → WxV}
theorem ve_c {e : Expr} {d : D} {v : V} (h : PE X e (tC v)) (r : ∀ O H, Rep X.K O H d v) : VE X G e (vC d) :=
  ⟨vC_mono, fun We tk => h.weak fun σ H Q ⟨hs, ρ, O, st, q⟩ => q v H O st (r O H)⟩
theorem ve_int {i : Int} {j : Nat} {pos : Pos} : VE X G (.Constant (.int i) j pos) (vC (.int i)) := ve_c pe_int fun _ _ => rep_int.mpr rfl
theorem ve_bl {i : Bool} {j : Nat} {pos : Pos} : VE X G (.Constant (.bool i) j pos) (vC (.bl i)) := ve_c pe_bl fun _ _ => rep_bl.mpr rfl
theorem ve_str {x : Str} {j : Nat} {pos : Pos} : VE X G (.Constant (.str x) j pos) (vC (.str x)) := ve_c pe_str fun _ _ => rep_str.mpr rfl
theorem ve_non {j : Nat} {pos : Pos} : VE X G (.Constant .none j pos) (vC .non) := ve_c pe_non fun _ _ => rep_non.mpr rfl
/-- a module's constant -/
theorem ve_glob {x : Str} {d : D} {v : V} {u : Value} {pos : Pos} (hg : Gl X x) (hm : X.mg x = some u) (rv : RelV v u) (r : ∀ O H, Rep X.K O H d v) (hd : (x == ("__debug__" : Str)) = false := by decide) : VE X G (.Name x pos) (vC d) :=
  ve_c (pe_glob hg hm rv hd) r
/-- a slot as a value: an own list is given up -/
def vVar (i : Nat) : PEv := fun ρ Q _ => vRd i ρ fun sv => match sv with
  | .sh d => Q (.sh d) ρ
  | .ow ds => Q (.sh (.lst ds)) (ρ.set i (some (.sh (.lst ds))))
  | _ => False
theorem vVar_mono {i : Nat} : EMono (vVar i) := fun ρ Q Q' W W' hQ _ h => vRd_mono (fun sv q => by
  cases sv with
  | sh d => exact hQ _ _ q
  | ow ds => exact hQ _ _ q
  | mu ds => exact q
  | bo ds => exact q
  | dc a kvs => exact q) h
theorem ve_var {e : Expr} {i : Nat} (h : PE X e (tVar i)) : VE X G e (vVar i) := by
  refine ⟨vVar_mono, fun We tk => h.weak fun σ H Q ⟨hs, ρ, O, st, q⟩ => ?_⟩
  obtain ⟨sv, hsv, q⟩ := vRd_some q
  cases sv with
  | sh d =>
    obtain ⟨v, e1, r⟩ := st.slot i _ hsv
    exact ⟨v, e1, q v H O st r⟩
  | ow ds =>
    obtain ⟨v, O', e1, st', r⟩ := st.freezeSlot hsv
    exact ⟨v, e1, q v H O' st' r⟩
  | mu ds => exact q.elim
  | bo ds => exact q.elim
  | dc a kvs => exact q.elim
/-- a slot's own list handed out (return x) -/
def vMove (i : Nat) : PEv := fun ρ Q _ => vRd i ρ fun sv => match sv with
  | .sh d => Q (.sh d) ρ
  | .ow ds => Q (.ow ds) (ρ.set i none)
  | .dc a kvs => Q (.dc a kvs) (ρ.set i none)
  | _ => False
theorem vMove_mono {i : Nat} : EMono (vMove i) := fun ρ Q Q' W W' hQ _ h => vRd_mono (fun sv q => by
  cases sv with
  | sh d => exact hQ _ _ q
  | ow ds => exact hQ _ _ q
  | mu ds => exact q
  | bo ds => exact q
  | dc a kvs => exact hQ _ _ q) h
theorem ve_move {e : Expr} {i : Nat} (h : PE X e (tVar i)) : VE X G e (vMove i) := by
  refine ⟨vMove_mono, fun We tk => h.weak fun σ H Q ⟨hs, ρ, O, st, q⟩ => ?_⟩
  obtain ⟨sv, hsv, q⟩ := vRd_some q
  cases sv with
  | sh d =>
    obtain ⟨v, e1, r⟩ := st.slot i _ hsv
    exact ⟨v, e1, q v H O st r⟩
  | ow ds =>
    obtain ⟨v, e1, st', r⟩ := st.take hsv
    exact ⟨v, e1, q v H O st' r⟩
  | mu ds => exact q.elim
  | bo ds => exact q.elim
  | dc a kvs => 
    obtain ⟨v, e1, r⟩ := st.slot i _ hsv
    exact ⟨v, e1, q v H O st.drop r⟩
end

/-! ### operators of one operand -/
abbrev F1 := D → (SV → Prop) → Prop
def F1.Mono (f : F1) : Prop := ∀ d k k', (∀ sv, k sv → k' sv) → f d k → f d k'
def vUn (f : F1) (p : OpP) : PEv := fun ρ Q W => vOp p ρ (fun x ρ1 => match x.get ρ1 with
  | some d => f d fun sv => Q sv ρ1
  | none => False) W
theorem vUn_mono {f : F1} {p : OpP} (fm : f.Mono) (hp : OMono p) : EMono (vUn f p) := fun ρ Q Q' W W' hQ hW h => hp ρ _ _ W W' (fun x r q => by
  split at q
  · exact fm _ _ _ (fun sv q => hQ _ _ q) q
  · exact q.elim) hW h
abbrev FN := List D → (SV → Prop) → Prop
def FN.Mono (f : FN) : Prop := ∀ ds k k', (∀ sv, k sv → k' sv) → f ds k → f ds k'
def getAll (ρ : Env) : List AV → Option (List D)
  | [] => some []
  | a :: as => match a.get ρ, getAll ρ as with
    | some d, some ds => some (d :: ds)
    | _, _ => none
def vCB (f : FN) (ps : List OpP) : PEv := fun ρ Q W => vOps ps ρ (fun as ρ1 => match getAll ρ1 as with
  | some ds => f ds fun sv => Q sv ρ1
  | none => False) W
theorem vCB_mono {f : FN} {ps : List OpP} (fm : f.Mono) (hp : LMono ps) : EMono (vCB f ps) := fun ρ Q Q' W W' hQ hW h => hp ρ _ _ W W' (fun x r q => by
  split at q
  · exact fm _ _ _ (fun sv q => hQ _ _ q) q
  · exact q.elim) hW h
def ViewL (K : PySem.W.Frag) (O : Own) (H : Hp) : List D → List V → Prop
  | [], vs => vs = []
  | d :: ds, vs => ∃ v r, vs = v :: r ∧ View K O H d v ∧ ViewL K O H ds r
section
variable {K : PySem.W.Frag} {G : Gh} {hs : Hd} {σ : L2.St} {H : Hp} {ρ : Env} {O : Own}
theorem StR.viewL (st : StR G K hs σ H ρ O) : ∀ {as : List AV} {vs : List V} {ds : List D}, AvsR σ K O H as vs → getAll ρ as = some ds → ViewL K O H ds vs
  | [], vs, ds, h, e => by
    cases e
    exact h
  | a :: as, vs, ds, h, e => by
    obtain ⟨v, r, rfl, h1, h2⟩ := h
    unfold getAll at e
    split at e
    · rename_i d ds' hd hds
      cases e
      exact ⟨v, r, rfl, st.view h1 hd, st.viewL h2 hds⟩
    · cases e
end
def OpU (X : Cx) (G : Gh) (r : V → Hp → VK → Prop) (f : F1) : Prop := ∀ (σ : L2.St) (hs : Hd) (ρ : Env) (O : Own) (H : Hp) (x : V) (d : D) (Q : VK), StR G X.K hs σ H ρ O → View X.K O H d x →
  f d (fun sv => ∀ v H' O', StR G X.K hs σ H' ρ O' → ResR G X.K hs σ ρ O' H' sv v → Q v H') → r x H Q
def CallV (X : Cx) (G : Gh) (r : List V → Hp → VK → Prop) (f : FN) : Prop := ∀ (σ : L2.St) (hs : Hd) (ρ : Env) (O : Own) (H : Hp) (xs : List V) (ds : List D) (Q : VK), StR G X.K hs σ H ρ O → ViewL X.K O H ds xs →
  f ds (fun sv => ∀ v H' O', StR G X.K hs σ H' ρ O' → ResR G X.K hs σ ρ O' H' sv v → Q v H') → r xs H Q
section
variable {X : Cx} {G : Gh} {We : Hd → WxV} {a e : Expr} {es : List Expr} {p : OpP} {ps : List OpP} {pos : Pos}
theorem tUn_of {f : F1} {r : V → Hp → VK → Prop} (fm : f.Mono) (hv : OpU X G r f) (ha : OMono p) {σ : L2.St} {H : Hp} {Q : VK} (q : TV G X.K (vUn f p) We σ H Q) : tUn r (TOp G X.K p We) σ H Q := by
  obtain ⟨hs, ρ, O, st, q⟩ := q
  refine ⟨hs, ρ, O, st, ha ρ _ _ _ _ (fun x r1 q x' H1 O1 st1 rx => ?_) (fun _ _ _ w => w) q⟩
  split at q
  · rename_i d hd
    exact hv σ hs r1 O1 H1 x' d Q st1 (st1.view rx hd) q
  · exact q.elim
theorem tCB_of {f : FN} {r : List V → Hp → VK → Prop} (fm : f.Mono) (hv : CallV X G r f) (ha : LMono ps) {σ : L2.St} {H : Hp} {Q : VK} (q : TV G X.K (vCB f ps) We σ H Q) : tCB r (TOps G X.K ps We) σ H Q := by
  obtain ⟨hs, ρ, O, st, q⟩ := q
  refine ⟨hs, ρ, O, st, ha ρ _ _ _ _ (fun as r1 q xs H1 O1 st1 rx => ?_) (fun _ _ _ w => w) q⟩
  split at q
  · rename_i ds hds
    exact hv σ hs r1 O1 H1 xs ds Q st1 (st1.viewL rx hds) q
  · exact q.elim
theorem ve_un {op : UnaryOp} {f : F1} {r : V → Hp → VK → Prop} (ho : UnR X (unaryOp op) r) (hv : OpU X G r f) (fm : f.Mono) (ha : VO X G a p) : VE X G (.UnaryOp op a pos) (vUn f p) :=
  ⟨vUn_mono fm ha.mono, fun We tk => (pe_un ho (ha.run We tk)).weak fun σ H Q q => tUn_of fm hv ha.mono q⟩
/-- a call of a built-in function, of a built-in type -/
theorem ve_callB {x : Str} {id : String} {p0 : Pos} {f : FN} {r : List V → Hp → VK → Prop} (hc : CallR X (.builtin id) r) (hv : CallV X G r f) (fm : f.Mono) (hg : Gl X x) (hm : X.mg x = none) (hb : bootBuiltins x = some (.builtin id)) (ha : VA X G (e :: es) ps)
    (hn : x ≠ "__name__" := by decide) (hdb : (x == ("__debug__" : Str)) = false := by decide) (he : starEach (e :: es) X.env = (false, eval e X.env) :: starEach es X.env := by rfl) (hpl : (backTo pos (starEach es X.env)).any (·.1) = false := by rfl) :
    VE X G (.Call (.Name x p0) (e :: es) [] pos) (vCB f ps) :=
  ⟨vCB_mono fm ha.mono, fun We tk => (pe_callB hc hg hm hb (ha.run We tk) hn hdb he hpl).weak fun σ H Q q => tCB_of fm hv ha.mono q⟩
theorem ve_callTy {x : Str} {T : String} {p0 : Pos} {f : FN} {r : List V → Hp → VK → Prop} (hc : CallR X (.type T) r) (hv : CallV X G r f) (fm : f.Mono) (hg : Gl X x) (hm : X.mg x = none) (hb : bootBuiltins x = some (.type T)) (ha : VA X G (e :: es) ps)
    (hn : x ≠ "__name__" := by decide) (hdb : (x == ("__debug__" : Str)) = false := by decide) (he : starEach (e :: es) X.env = (false, eval e X.env) :: starEach es X.env := by rfl) (hpl : (backTo pos (starEach es X.env)).any (·.1) = false := by rfl) :
    VE X G (.Call (.Name x p0) (e :: es) [] pos) (vCB f ps) :=
  ⟨vCB_mono fm ha.mono, fun We tk => (pe_callTy hc hg hm hb (ha.run We tk) hn hdb he hpl).weak fun σ H Q q => tCB_of fm hv ha.mono q⟩
end

/-! ### what they are -/
def fNeg : F1
  | .int i, k => k (.sh (.int (-i)))
  | _, _ => False
theorem fNeg_mono : F1.Mono fNeg := by
  intro d k k' hk h
  unfold fNeg at h ⊢
  split at h
  · exact hk _ h
  · exact h.elim
def D.isNon : D → Bool
  | .non => true
  | _ => false
/-- is None, is True, is False -/
def fIsG (g : Bool → Bool) : F2
  | .bl a, .bl b, k => k (.sh (.bl (g (decide (a = b)))))
  | d, .non, k => k (.sh (.bl (g d.isNon)))
  | _, _, _ => False
theorem fIsG_mono {g} : F2.Mono (fIsG g) := by
  intro d e k k' hk h
  unfold fIsG at h ⊢
  split at h
  · exact hk _ h
  · exact hk _ h
  · exact h.elim
abbrev fIs := fIsG id
abbrev fIsNot := fIsG not
section
variable {K : PySem.W.Frag} {O : Own} {H : Hp}
theorem view_isNon {d : D} {v : V} (h : View K O H d v) : decide (v = .non) = d.isNon := by
  cases d with
  | non => rw [view_non h]; rfl
  | bl b => rw [view_bl h]; rfl
  | int i => rw [view_int h]; rfl
  | str x => rw [view_str h]; rfl
  | tup ds => obtain ⟨a, xs, rfl, _⟩ := view_tup h; rfl
  | lst ds => obtain ⟨a, xs, rfl, _⟩ := view_lst h; rfl
  | ob a =>
    have h' : Rep K O H (.ob a) v := h
    rw [rep_ob.mp h']
    rfl
  | rc c ks ds =>
    obtain ⟨a, xs, e, _, _⟩ := rep_rc.mp (show Rep K O H (.rc c ks ds) v from h)
    rw [e]
    rfl
end
/-- x in list or tuple -/
def fInG (g : Bool → Bool) : F2
  | d, .lst ds, k => d.ok ∧ (D.lst ds).ok ∧ k (.sh (.bl (g (ds.any fun z => D.eqv z d))))
  | d, .tup ds, k => d.ok ∧ (D.tup ds).ok ∧ k (.sh (.bl (g (ds.any fun z => D.eqv z d))))
  | _, _, _ => False
theorem fInG_mono {g} : F2.Mono (fInG g) := by
  intro d e k k' hk h
  unfold fInG at h ⊢
  split at h
  · exact ⟨h.1, h.2.1, hk _ h.2.2⟩
  · exact ⟨h.1, h.2.1, hk _ h.2.2⟩
  · exact h.elim
abbrev fIn := fInG id
abbrev fNotIn := fInG not
theorem any_py {d : D} : ∀ ds : List D, ((D.pyL ds).any fun z => PyData.eqv z d.py) = ds.any fun z => D.eqv z d
  | [] => by simp only [D.pyL, List.any_nil]
  | z :: ds => by simp only [D.pyL, List.any_cons, any_py ds]; rfl
/-- an item -/
def fIx : F2
  | .lst ds, .int i, k => match atI ds i with
    | some d => k (.sh d)
    | none => False
  | .tup ds, .int i, k => match atI ds i with
    | some d => k (.sh d)
    | none => False
  | .str z, .int i, k => z.length ≤ 16777216 ∧ match atI z.cps.toList i with
    | some c => k (.sh (.str ⟨#[c]⟩))
    | none => False
  | _, _, _ => False
theorem fIx_mono : F2.Mono fIx := by
  intro d e k k' hk h
  unfold fIx at h ⊢
  split at h
  · split at h
    · exact hk _ h
    · exact h.elim
  · split at h
    · exact hk _ h
    · exact h.elim
  · refine ⟨h.1, ?_⟩
    have h2 := h.2
    split at h2
    · exact hk _ h2
    · exact h2.elim
  · exact h.elim
section
variable {K : PySem.W.Frag} {O : Own} {H : Hp}
theorem RepL.atI {ds : List D} {xs : List V} (r : RepL K O H ds xs) {i : Int} {d : D} (h : L2.atI ds i = some d) : ∃ v, L2.atI xs i = some v ∧ Rep K O H d v := by
  unfold L2.atI at h ⊢
  rw [r.length]
  cases e : ixN ds.length i with
  | none => rw [e] at h; cases h
  | some j =>
    rw [e] at h
    exact r.get (by simpa using h)
end
section
variable {X : Cx} {G : Gh}
theorem ou_neg : OpU X G (rU fun i => .int (-i)) fNeg := by
  intro σ hs ρ O H x d Q st vx hf
  unfold fNeg at hf
  split at hf
  · rw [view_int vx]
    exact ⟨_, rfl, hf _ H O st res_int⟩
  · exact hf.elim
abbrev rIsV : R2 := fun x y H Q => (y = .non ∧ Q (.bl (decide (x = .non))) H) ∨ rIsB x y H Q
abbrev rIsNotV : R2 := fun x y H Q => (y = .non ∧ Q (.bl (!decide (x = .non))) H) ∨ rNotB x y H Q
theorem op_isV : OpR X (compareOp .Is) rIsV := op_isN.or op_isBl
theorem op_isNotV : OpR X (compareOp .IsNot) rIsNotV := op_notN.or op_notBl
theorem ov_is : OpV X G rIsV fIs := by
  intro σ hs ρ O H x y d e Q st vx vy hf
  unfold fIs fIsG at hf
  split at hf
  · rw [view_bl vx, view_bl vy]
    exact .inr ⟨_, _, rfl, rfl, hf _ H O st res_bl⟩
  · refine .inl ⟨view_non vy, ?_⟩
    rw [view_isNon vx]
    exact hf _ H O st res_bl
  · exact hf.elim
theorem ov_isNot : OpV X G rIsNotV fIsNot := by
  intro σ hs ρ O H x y d e Q st vx vy hf
  unfold fIsNot fIsG at hf
  split at hf
  · rw [view_bl vx, view_bl vy]
    exact .inr ⟨_, _, rfl, rfl, hf _ H O st res_bl⟩
  · refine .inl ⟨view_non vy, ?_⟩
    rw [view_isNon vx]
    exact hf _ H O st res_bl
  · exact hf.elim
def rInT (K : PySem.W.Frag) : R2 := fun x y H Q => ∃ d ds, Dp K H x d ∧ Dp K H y (.tuple ds) ∧ SeqAt.shaped d = true ∧ SeqAt.shaped (.tuple ds) = true ∧ Q (.bl (ds.any fun z => PyData.eqv z d)) H
def rNotInT (K : PySem.W.Frag) : R2 := fun x y H Q => ∃ d ds, Dp K H x d ∧ Dp K H y (.tuple ds) ∧ SeqAt.shaped d = true ∧ SeqAt.shaped (.tuple ds) = true ∧ Q (.bl (!ds.any fun z => PyData.eqv z d)) H
theorem op_inT (hu : X.A.units + 65 < cLine) : OpR X (compareOp .In) (rInT X.K) := by
  intro pins s σ H x y v u Q I rx ry h
  obtain ⟨d, ds, hd, he, sd, se, q⟩ := h
  obtain ⟨as, r1⟩ := Dp.reads I d x v hd rx
  obtain ⟨bs, r2⟩ := Dp.reads I (.tuple ds) y u he ry
  exact SeqAt.in_tuple_reads r2 r1 (SeqAt.canLay_of_shaped se) (SeqAt.canLay_of_shaped sd) (room_in_shaped sd hu) ⟨.bl _, H, I, rfl, q⟩
theorem op_notInT (hu : X.A.units + 65 < cLine) : OpR X (compareOp .NotIn) (rNotInT X.K) := by
  intro pins s σ H x y v u Q I rx ry h
  obtain ⟨d, ds, hd, he, sd, se, q⟩ := h
  obtain ⟨as, r1⟩ := Dp.reads I d x v hd rx
  obtain ⟨bs, r2⟩ := Dp.reads I (.tuple ds) y u he ry
  exact SeqAt.notIn_tuple_reads r2 r1 (SeqAt.canLay_of_shaped se) (SeqAt.canLay_of_shaped sd) (room_in_shaped sd hu) ⟨.bl _, H, I, rfl, q⟩
abbrev rInV (K : PySem.W.Frag) : R2 := fun x y H Q => rInD K x y H Q ∨ rInT K x y H Q
abbrev rNotInV (K : PySem.W.Frag) : R2 := fun x y H Q => rNotInD K x y H Q ∨ rNotInT K x y H Q
theorem op_inV (hu : X.A.units + 65 < cLine) : OpR X (compareOp .In) (rInV X.K) := (op_inD hu).or (op_inT hu)
theorem op_notInV (hu : X.A.units + 65 < cLine) : OpR X (compareOp .NotIn) (rNotInV X.K) := (op_notInD hu).or (op_notInT hu)
theorem ov_in : OpV X G (rInV X.K) fIn := by
  intro σ hs ρ O H x y d e Q st vx vy hf
  unfold fIn fInG at hf
  split at hf
  · refine .inl ⟨_, _, vx.dp hf.1.1, (by have z := vy.dp hf.2.1.1; simp only [D.py] at z; exact z), D.shaped hf.1, (by have z := D.shaped hf.2.1; simp only [D.py] at z; exact z), ?_⟩
    rw [any_py]
    exact hf.2.2 _ H O st res_bl
  · refine .inr ⟨_, _, vx.dp hf.1.1, (by have z := vy.dp hf.2.1.1; simp only [D.py] at z; exact z), D.shaped hf.1, (by have z := D.shaped hf.2.1; simp only [D.py] at z; exact z), ?_⟩
    rw [any_py]
    exact hf.2.2 _ H O st res_bl
  · exact hf.elim
theorem ov_notIn : OpV X G (rNotInV X.K) fNotIn := by
  intro σ hs ρ O H x y d e Q st vx vy hf
  unfold fNotIn fInG at hf
  split at hf
  · refine .inl ⟨_, _, vx.dp hf.1.1, (by have z := vy.dp hf.2.1.1; simp only [D.py] at z; exact z), D.shaped hf.1, (by have z := D.shaped hf.2.1; simp only [D.py] at z; exact z), ?_⟩
    rw [any_py]
    exact hf.2.2 _ H O st res_bl
  · refine .inr ⟨_, _, vx.dp hf.1.1, (by have z := vy.dp hf.2.1.1; simp only [D.py] at z; exact z), D.shaped hf.1, (by have z := D.shaped hf.2.1; simp only [D.py] at z; exact z), ?_⟩
    rw [any_py]
    exact hf.2.2 _ H O st res_bl
  · exact hf.elim
theorem ov_ix : OpV X G (rIx X.K) fIx := by
  intro σ hs ρ O H x y d e Q st vx vy hf
  unfold fIx at hf
  split at hf
  · rw [view_int vy]
    obtain ⟨a, xs, rfl, ta, ra⟩ := view_lst vx
    split at hf
    · rename_i d hd
      obtain ⟨v, e1, r⟩ := ra.atI hd
      exact .inl ⟨a, xs, _, v, rfl, rfl, ta, e1, hf v H O st r⟩
    · exact hf.elim
  · rw [view_int vy]
    obtain ⟨a, xs, rfl, ta, ra⟩ := view_tup vx
    split at hf
    · rename_i d hd
      obtain ⟨v, e1, r⟩ := ra.atI hd
      exact .inr (.inl ⟨a, xs, _, v, rfl, rfl, ta.sq, e1, hf v H O st r⟩)
    · exact hf.elim
  · rw [view_int vy, view_str vx]
    have hf2 := hf.2
    split at hf2
    · rename_i c hc
      exact .inr (.inr ⟨_, _, c, rfl, rfl, lineN hf.1, hc, hf2 _ H O st res_str⟩)
    · exact hf2.elim
  · exact hf.elim
theorem ve_ix {a b : Expr} {pa pb : OpP} {pos : Pos} (ha : VO X G a pa) (hb : VO X G b pb) (hs : PlainIx b) : VE X G (.Subscript a b pos) (vBin fIx pa pb) :=
  ⟨vBin_mono fIx_mono ha.mono hb.mono, fun We tk => (pe_ix ix_seq (ha.run We tk) (hb.run We tk) hs).weak fun σ H Q q => tOp_of fIx_mono ov_ix ha.mono hb.mono tk.up q⟩
end

/-! ### displays -/
def vVals : List PEv → Env → (List D → Env → Prop) → WxV → Prop
  | [], ρ, k, _ => k [] ρ
  | p :: ps, ρ, k, W => p ρ (fun sv ρ1 => vVals ps ρ1 (fun ds ρ2 => k (sv.fz :: ds) ρ2) W) W
def VMono (ps : List PEv) : Prop := ∀ (ρ : Env) (k k' : List D → Env → Prop) (W W' : WxV), (∀ a r, k a r → k' a r) → (∀ c y r, W c y r → W' c y r) → vVals ps ρ k W → vVals ps ρ k' W'
def TVals (G : Gh) (K : PySem.W.Frag) (ps : List PEv) (We : Hd → WxV) : TA := fun σ H Q => ∃ hs ρ O, StR G K hs σ H ρ O ∧ vVals ps ρ (fun ds ρ' => ∀ vs H' O', StR G K hs σ H' ρ' O' → RepL K O' H' ds vs → Q vs H') (We hs)
structure VL (X : Cx) (G : Gh) (es : List Expr) (ps : List PEv) : Prop where
  mono : VMono ps
  run : ∀ We, Tk X G We → PA X es (TVals G X.K ps We)
section
variable {X : Cx} {G : Gh} {We : Hd → WxV} {e : Expr} {es : List Expr} {p : PEv} {ps : List PEv} {pos : Pos}
theorem vl_nil : VL X G [] [] := ⟨fun ρ k k' W W' hk hW h => hk _ _ h, fun We tk => pa_nil.weak fun σ H Q ⟨hs, ρ, O, st, q⟩ => q [] H O st (repL_nil.mpr rfl)⟩
theorem vl_cons (ha : VE X G e p) (hr : VL X G es ps) (hs : starEach (e :: es) X.env = (false, eval e X.env) :: starEach es X.env := by rfl) : VL X G (e :: es) (p :: ps) := by
  refine ⟨fun ρ k k' W W' hk hW h => ?_, fun We tk => (pa_cons (ha.run We tk) (hr.run We tk) hs).weak fun σ H Q ⟨hs, ρ, O, st, q⟩ => ?_⟩
  · exact ha.mono ρ _ _ W W' (fun a r q => hr.mono r _ _ W W' (fun as r2 q2 => hk _ _ q2) hW q) hW h
  · refine ⟨hs, ρ, O, st, ha.mono ρ _ _ _ _ (fun sv r q x H1 O1 st1 r1 => ?_) (fun _ _ _ w => w) q⟩
    obtain ⟨O2, st2, _, r2⟩ := ResR.freeze st1 r1
    refine ⟨HdI.val sv.fz x :: hs, r, O2, st2.hold r2, hr.mono r _ _ _ _ (fun ds r3 q2 ys H3 O3 st3 rs => ?_) (tk.up _ _ fun p hp => List.mem_cons_of_mem _ hp) q⟩
    exact q2 (x :: ys) H3 O3 (st3.fewer fun p hp => List.mem_cons_of_mem _ hp) (repL_cons.mpr ⟨x, ys, rfl, st3.held sv.fz x List.mem_cons_self, rs⟩)
def vTup (ps : List PEv) : PEv := fun ρ Q W => vVals ps ρ (fun ds ρ1 => ds.length ≤ 16777216 ∧ Q (.sh (.tup ds)) ρ1) W
def vLst (ps : List PEv) : PEv := fun ρ Q W => vVals ps ρ (fun ds ρ1 => ds.length ≤ 16777216 ∧ Q (.ow ds) ρ1) W
theorem vTup_mono (hp : VMono ps) : EMono (vTup ps) := fun ρ Q Q' W W' hQ hW h => hp ρ _ _ W W' (fun x r q => ⟨q.1, hQ _ _ q.2⟩) hW h
theorem vLst_mono (hp : VMono ps) : EMono (vLst ps) := fun ρ Q Q' W W' hQ hW h => hp ρ _ _ W W' (fun x r q => ⟨q.1, hQ _ _ q.2⟩) hW h
theorem ve_tup {j : Nat} (h : VL X G es ps) : VE X G (.Tuple es j pos) (vTup ps) := by
  refine ⟨vTup_mono h.mono, fun We tk => (pe_tup (h.run We tk)).weak fun σ H Q ⟨hs, ρ, O, st, q⟩ => ?_⟩
  refine ⟨hs, ρ, O, st, h.mono ρ _ _ _ _ (fun ds r q vs H1 O1 st1 r1 => ⟨lineN (by rw [r1.length]; exact q.1), fun p hp => ?_⟩) (fun _ _ _ w => w) q⟩
  obtain ⟨st', r'⟩ := st1.resTup hp r1
  exact q.2 _ _ _ st' r'
theorem ve_lst (h : VL X G es ps) : VE X G (.List es pos) (vLst ps) := by
  refine ⟨vLst_mono h.mono, fun We tk => (pe_lst (h.run We tk)).weak fun σ H Q ⟨hs, ρ, O, st, q⟩ => ?_⟩
  refine ⟨hs, ρ, O, st, h.mono ρ _ _ _ _ (fun ds r q vs H1 O1 st1 r1 => ⟨lineN (by rw [r1.length]; exact q.1), fun p hp => ?_⟩) (fun _ _ _ w => w) q⟩
  obtain ⟨st', r'⟩ := st1.resLst hp r1
  exact q.2 _ _ _ st' r'
end

/-! ### slices -/
def cutD {α : Type} (xs : List α) (lo hi : Option Int) : List α := (xs.drop (HT.sIx xs.length 0 lo)).take (HT.sIx xs.length xs.length hi - HT.sIx xs.length 0 lo)
inductive PoP where
  | no | at (p : OpP)
def vPo : PoP → Env → (Option Int → Env → Prop) → WxV → Prop
  | .no, ρ, k, _ => k none ρ
  | .at p, ρ, k, W => vOp p ρ (fun a ρ1 => match a.get ρ1 with
    | some (.int i) => k (some i) ρ1
    | _ => False) W
def PoMono (p : PoP) : Prop := ∀ (ρ : Env) (k k' : Option Int → Env → Prop) (W W' : WxV), (∀ a r, k a r → k' a r) → (∀ c y r, W c y r → W' c y r) → vPo p ρ k W → vPo p ρ k' W'
def TPo (G : Gh) (K : PySem.W.Frag) (p : PoP) (We : Hd → WxV) : TO := fun σ H Q => ∃ hs ρ O, StR G K hs σ H ρ O ∧ vPo p ρ (fun o ρ' => ∀ H' O', StR G K hs σ H' ρ' O' → Q o H') (We hs)
structure VPo (X : Cx) (G : Gh) (e : Option Expr) (p : PoP) : Prop where
  mono : PoMono p
  run : ∀ We, Tk X G We → PO X e (TPo G X.K p We)
theorem _root_.L2.PO.weak {X : Cx} {e : Option Expr} {t t' : TO} (h : PO X e t) (hw : ∀ σ H Q, t' σ H Q → t σ H Q) : PO X e t' := ⟨fun pins s σ H Q I q => h.run pins s σ H Q I (hw σ H Q q)⟩
section
variable {X : Cx} {G : Gh} {We : Hd → WxV} {e : Expr} {p : OpP} {pl ph : PoP} {lo hi : Option Expr} {pos p2 : Pos}
theorem vpo_no : VPo X G none .no := ⟨fun ρ k k' W W' hk hW h => hk _ _ h, fun We tk => po_none.weak fun σ H Q ⟨hs, ρ, O, st, q⟩ => q H O st⟩
theorem vpo_at (h : VO X G e p) : VPo X G (some e) (.at p) := by
  refine ⟨fun ρ k k' W W' hk hW q => h.mono ρ _ _ W W' (fun a r q => ?_) hW q, fun We tk => (po_some (h.run We tk)).weak fun σ H Q ⟨hs, ρ, O, st, q⟩ => ?_⟩
  · split at q
    · exact hk _ _ q
    · exact q.elim
  · refine ⟨hs, ρ, O, st, h.mono ρ _ _ _ _ (fun a r q x H1 O1 st1 r1 => ?_) (fun _ _ _ w => w) q⟩
    split at q
    · rename_i i hi
      exact ⟨i, view_int (st1.view r1 hi), q H1 O1 st1⟩
    · exact q.elim
def fSl : D → Option Int → Option Int → (SV → Prop) → Prop
  | .lst ds, lo, hi, k => k (.ow (cutD ds lo hi))
  | .tup ds, lo, hi, k => k (.sh (.tup (cutD ds lo hi)))
  | .str z, lo, hi, k => z.length ≤ 16777216 ∧ k (.sh (.str (cutS z lo hi)))
  | _, _, _, _ => False
theorem fSl_mono {d : D} {lo hi : Option Int} {k k' : SV → Prop} (hk : ∀ sv, k sv → k' sv) (h : fSl d lo hi k) : fSl d lo hi k' := by
  unfold fSl at h ⊢
  split at h
  · exact hk _ h
  · exact hk _ h
  · exact ⟨h.1, hk _ h.2⟩
  · exact h.elim
def vSl (p : OpP) (pl ph : PoP) : PEv := fun ρ Q W => vOp p ρ (fun a ρ1 => vPo pl ρ1 (fun lo ρ2 => vPo ph ρ2 (fun hi ρ3 => match a.get ρ3 with
  | some d => fSl d lo hi fun sv => Q sv ρ3
  | none => False) W) W) W
theorem RepL.cut {K : PySem.W.Frag} {O : Own} {H : Hp} {ds : List D} {xs : List V} (r : RepL K O H ds xs) (lo hi : Option Int) : RepL K O H (cutD ds lo hi) (cutV xs lo hi) := by
  unfold cutD cutV
  rw [r.length]
  exact (r.drop _).take _
end
end Vx

namespace Vx
open PySem PySem.Spec PyProof.Rows L2
section
variable {X : Cx} {G : Gh} {We : Hd → WxV} {e : Expr} {p : OpP} {pl ph : PoP} {lo hi : Option Expr} {pos p2 : Pos}
abbrev rSlV (K : PySem.W.Frag) : V → Option Int → Option Int → Hp → VK → Prop := fun x lo hi H Q => rSlL K x lo hi H Q ∨ rSlA K x lo hi H Q ∨ rSlS x lo hi H Q
theorem sl_any : SlR X (rSlV X.K) := sl_list.or (sl_tupA.or sl_str)
theorem vSl_mono (hp : OMono p) (hl : PoMono pl) (hh : PoMono ph) : EMono (vSl p pl ph) := fun ρ Q Q' W W' hQ hW h =>
  hp ρ _ _ W W' (fun a r q => hl r _ _ W W' (fun lo r2 q => hh r2 _ _ W W' (fun hi r3 q => by
    split at q
    · exact fSl_mono (fun sv q => hQ _ _ q) q
    · exact q.elim) hW q) hW q) hW h
theorem ve_sl (ha : VO X G e p) (hl : VPo X G lo pl) (hh : VPo X G hi ph) : VE X G (.Subscript e (.Slice lo hi none p2) pos) (vSl p pl ph) := by
  refine ⟨vSl_mono ha.mono hl.mono hh.mono, fun We tk => (pe_slice sl_any (ha.run We tk) (hl.run We tk) (hh.run We tk)).weak fun σ H Q ⟨hs, ρ, O, st, q⟩ => ?_⟩
  refine ⟨hs, ρ, O, st, ha.mono ρ _ _ _ _ (fun a r q x H1 O1 st1 rx => ?_) (fun _ _ _ w => w) q⟩
  refine ⟨a.hold x hs, r, O1, st1.holdA rx, hl.mono r _ _ _ _ (fun l r2 q H2 O2 st2 => ?_) (tk.up _ _ hold_sub) q⟩
  refine ⟨a.hold x hs, r2, O2, st2, hh.mono r2 _ _ _ _ (fun u r3 q H3 O3 st3 => ?_) (tk.up _ _ hold_sub) q⟩
  have rx3 : AvR σ X.K O3 H3 a x := st3.heldA rx hold_nil
  have st4 := st3.fewer (hs' := hs) hold_sub
  split at q
  · rename_i d hd
    have vw := st4.view rx3 hd
    cases d with
    | lst ds =>
      obtain ⟨b, xs, rfl, tb, rb⟩ := view_lst vw
      refine .inl ⟨b, xs, rfl, tb, fun p hp => ?_⟩
      obtain ⟨st', r'⟩ := st4.resLst hp (rb.cut l u)
      exact q _ _ _ st' r'
    | tup ds =>
      obtain ⟨b, xs, rfl, tb, rb⟩ := view_tup vw
      refine .inr (.inl ⟨b, xs, rfl, tb.sq, fun hw => ?_, fun _ p hp => ?_⟩)
      · refine q _ H3 O3 st4 (res_tup tb ?_)
        have z := rb.cut l u
        have e : cutV xs l u = xs := by
          unfold cutV
          rw [hw.1, hw.2, List.drop_zero, Nat.sub_zero, List.take_length]
        rwa [e] at z
      · obtain ⟨st', r'⟩ := st4.resTup hp (rb.cut l u)
        exact q _ _ _ st' r'
    | str z =>
      rw [view_str vw]
      exact .inr (.inr ⟨_, rfl, lineN q.1, q.2 _ H3 O3 st4 res_str⟩)
    | non => exact (show False from q).elim
    | bl _ => exact (show False from q).elim
    | int _ => exact (show False from q).elim
    | ob _ => exact (show False from q).elim
    | rc _ _ _ => exact (show False from q).elim
  · exact q.elim
end

/-! ### tests -/
/-- the truth of a value -/
def D.tru : D → Option Bool
  | .non => some false
  | .bl b => some b
  | .int i => some (i != 0)
  | .str x => some ((x.length : Int) != 0)
  | .tup ds => some (!ds.isEmpty)
  | .lst ds => some (!ds.isEmpty)
  | .ob _ => none
  | .rc _ _ _ => none
def vTru (p : OpP) : PTv := fun ρ Q W => vOp p ρ (fun a ρ1 => match a.get ρ1 with
  | some d => (match d with
    | .str x => x.length ≤ 16777216
    | _ => True) ∧ (match d.tru with
    | some b => Q b ρ1
    | none => False)
  | none => False) W
theorem vTru_mono {p : OpP} (hp : OMono p) : TMono (vTru p) := fun ρ Q Q' W W' hQ hW h => hp ρ _ _ W W' (fun a r q => by
  split at q
  · refine ⟨q.1, ?_⟩
    have q2 := q.2
    split at q2
    · exact hQ _ _ q2
    · exact q2.elim
  · exact q.elim) hW h
def vNot (p : PTv) : PTv := fun ρ Q W => p ρ (fun b r => Q (!b) r) W
def vAndT (p q : PTv) : PTv := fun ρ Q W => p ρ (fun b r => if b = true then q r Q W else Q false r) W
def vOrT (p q : PTv) : PTv := fun ρ Q W => p ρ (fun b r => if b = true then Q true r else q r Q W) W
theorem vNot_mono {p : PTv} (h : TMono p) : TMono (vNot p) := fun ρ Q Q' W W' hQ hW q => h ρ _ _ W W' (fun b r q => hQ _ _ q) hW q
theorem vAndT_mono {p q : PTv} (h : TMono p) (h2 : TMono q) : TMono (vAndT p q) := fun ρ Q Q' W W' hQ hW z => h ρ _ _ W W' (fun b r z => by
  split at z
  · rename_i hb; rw [if_pos hb]; exact h2 r _ _ W W' hQ hW z
  · rename_i hb; rw [if_neg hb]; exact hQ _ _ z) hW z
theorem vOrT_mono {p q : PTv} (h : TMono p) (h2 : TMono q) : TMono (vOrT p q) := fun ρ Q Q' W W' hQ hW z => h ρ _ _ W W' (fun b r z => by
  split at z
  · rename_i hb; rw [if_pos hb]; exact hQ _ _ z
  · rename_i hb; rw [if_neg hb]; exact h2 r _ _ W W' hQ hW z) hW z
section
variable {X : Cx} {G : Gh} {We : Hd → WxV} {a b e : Expr} {rest : List Expr} {p q : PTv} {po : OpP} {pos : Pos}
theorem vt_tru (ha : VO X G a po) (he : ∀ whole, isTrue a X.env whole = (do let v ← whole; standAt a.pos; holding [v] (truthy v)) := by intro _; rfl) : VT X G a (vTru po) := by
  refine ⟨vTru_mono ha.mono, fun We tk => (pt_truth (ha.run We tk) he).weak fun σ H Q ⟨hs, ρ, O, st, q⟩ => ?_⟩
  refine ⟨hs, ρ, O, st, ha.mono ρ _ _ _ _ (fun a r q x H1 O1 st1 rx => ?_) (fun _ _ _ w => w) q⟩
  split at q
  · rename_i d hd
    have vw := st1.view rx hd
    obtain ⟨hz, q2⟩ := q
    split at q2
    · rename_i b hb
      refine ⟨b, ?_, q2 H1 O1 st1⟩
      cases d with
      | non => rw [view_non vw]; exact (Option.some.inj hb).symm
      | bl c => rw [view_bl vw]; exact (Option.some.inj hb).symm
      | int i => rw [view_int vw]; exact (Option.some.inj hb).symm
      | str x => rw [view_str vw]; exact ⟨lineN hz, (Option.some.inj hb).symm⟩
      | tup ds =>
        obtain ⟨a, xs, rfl, t, rr⟩ := view_tup vw
        refine .inr (.inl ⟨xs, t.sq, ?_⟩)
        have e : (!ds.isEmpty) = b := Option.some.inj hb
        rw [← e]
        cases ds with
        | nil => rw [repL_nil.mp rr]; rfl
        | cons d ds => obtain ⟨y, ys, rfl, _⟩ := repL_cons.mp rr; rfl
      | lst ds =>
        obtain ⟨a, xs, rfl, t, rr⟩ := view_lst vw
        refine .inl ⟨xs, t, ?_⟩
        have e : (!ds.isEmpty) = b := Option.some.inj hb
        rw [← e]
        cases ds with
        | nil => rw [repL_nil.mp rr]; rfl
        | cons d ds => obtain ⟨y, ys, rfl, _⟩ := repL_cons.mp rr; rfl
      | ob a => cases hb
      | rc _ _ _ => cases hb
    · exact q2.elim
  · exact q.elim
theorem VW.vt (h : VW X G e p) : VT X G e p := ⟨h.mono, fun We tk => (h.run We tk).pt⟩
theorem vt_not (h : VT X G a p) : VT X G (.UnaryOp .Not a pos) (vNot p) :=
  ⟨vNot_mono h.mono, fun We tk => (pt_not (h.run We tk)).weak fun σ H Q ⟨hs, ρ, O, st, q⟩ => ⟨hs, ρ, O, st, q⟩⟩
theorem vw_and1 (h : VT X G a p) : VW X G (.BoolOp .And [a] pos) p := ⟨h.mono, fun We tk => pw_and1 (h.run We tk)⟩
theorem vw_or1 (h : VT X G a p) : VW X G (.BoolOp .Or [a] pos) p := ⟨h.mono, fun We tk => pw_or1 (h.run We tk)⟩
theorem vw_and (h : VT X G a p) (h2 : VW X G (.BoolOp .And (b :: rest) pos) q) : VW X G (.BoolOp .And (a :: b :: rest) pos) (vAndT p q) :=
  ⟨vAndT_mono h.mono h2.mono, fun We tk => (pw_and (h.run We tk) (h2.run We tk)).weak fun σ H Q ⟨hs, ρ, O, st, z⟩ => ⟨hs, ρ, O, st, h.mono ρ _ _ _ _ (fun b r z H1 O1 st1 => by
    split at z
    · rename_i hb; rw [if_pos hb]; exact ⟨hs, r, O1, st1, z⟩
    · rename_i hb; rw [if_neg hb]; exact z H1 O1 st1) (fun _ _ _ w => w) z⟩⟩
theorem vw_or (h : VT X G a p) (h2 : VW X G (.BoolOp .Or (b :: rest) pos) q) : VW X G (.BoolOp .Or (a :: b :: rest) pos) (vOrT p q) :=
  ⟨vOrT_mono h.mono h2.mono, fun We tk => (pw_or (h.run We tk) (h2.run We tk)).weak fun σ H Q ⟨hs, ρ, O, st, z⟩ => ⟨hs, ρ, O, st, h.mono ρ _ _ _ _ (fun b r z H1 O1 st1 => by
    split at z
    · rename_i hb; rw [if_pos hb]; exact z H1 O1 st1
    · rename_i hb; rw [if_neg hb]; exact ⟨hs, r, O1, st1, z⟩) (fun _ _ _ w => w) z⟩⟩
/-- a constant True, False as a test; a value that is a bool -/
theorem vt_val {pe : PEv} (h : VE X G e pe) (he : ∀ whole, isTrue e X.env whole = (do let v ← whole; standAt e.pos; holding [v] (truthy v)) := by intro _; rfl) : VT X G e (vTest pe) :=
  ⟨vTest_mono h.mono, fun We tk => (pt_val (h.run We tk) he).weak fun σ H Q q => tTest_of h.mono q⟩
/-- and, or, not as values: all but the last are bools -/
def vBoolK (sv : SV) (k : Bool → Prop) : Prop := match sv with
  | .sh (.bl b) => k b
  | _ => False
theorem vBoolK_mono {sv : SV} {k k' : Bool → Prop} (hk : ∀ b, k b → k' b) (h : vBoolK sv k) : vBoolK sv k' := by
  unfold vBoolK at h ⊢
  split at h
  · exact hk _ h
  · exact h.elim
def vAndE (p q : PEv) : PEv := fun ρ Q W => p ρ (fun sv r => vBoolK sv fun b => if b = true then q r Q W else Q (.sh (.bl false)) r) W
def vOrE (p q : PEv) : PEv := fun ρ Q W => p ρ (fun sv r => vBoolK sv fun b => if b = true then Q (.sh (.bl true)) r else q r Q W) W
def vNotE (p : PEv) : PEv := fun ρ Q W => p ρ (fun sv r => vBoolK sv fun b => Q (.sh (.bl (!b))) r) W
variable {pe qe : PEv}
theorem vAndE_mono (h : EMono pe) (h2 : EMono qe) : EMono (vAndE pe qe) := fun ρ Q Q' W W' hQ hW z => h ρ _ _ W W' (fun sv r z => vBoolK_mono (fun b z => by
  split at z
  · rename_i hb; rw [if_pos hb]; exact h2 r _ _ W W' hQ hW z
  · rename_i hb; rw [if_neg hb]; exact hQ _ _ z) z) hW z
theorem vOrE_mono (h : EMono pe) (h2 : EMono qe) : EMono (vOrE pe qe) := fun ρ Q Q' W W' hQ hW z => h ρ _ _ W W' (fun sv r z => vBoolK_mono (fun b z => by
  split at z
  · rename_i hb; rw [if_pos hb]; exact hQ _ _ z
  · rename_i hb; rw [if_neg hb]; exact h2 r _ _ W W' hQ hW z) z) hW z
theorem vNotE_mono (h : EMono pe) : EMono (vNotE pe) := fun ρ Q Q' W W' hQ hW z => h ρ _ _ W W' (fun sv r z => vBoolK_mono (fun b z => hQ _ _ z) z) hW z
theorem ve_one {op : BoolOp} (h : VE X G a pe) : VE X G (.BoolOp op [a] pos) pe := ⟨h.mono, fun We tk => pe_one (h.run We tk)⟩
theorem ResR.bool {K : PySem.W.Frag} {σ : L2.St} {ρ : Env} {O : Own} {H : Hp} {b : Bool} {v : V} (h : ResR G K hs σ ρ O H (.sh (.bl b)) v) : v = .bl b := by
  have h' : Rep K O H (.bl b) v := h
  exact rep_bl.mp h'
theorem vBoolK_run {K : PySem.W.Frag} {σ : L2.St} {ρ : Env} {O : Own} {H : Hp} {sv : SV} {v : V} {k : Bool → Prop} (h : vBoolK sv k) (r : ResR G K hs σ ρ O H sv v) : ∃ b, v = .bl b ∧ k b := by
  unfold vBoolK at h
  split at h
  · exact ⟨_, r.bool, h⟩
  · exact h.elim
theorem ve_and (h : VE X G a pe) (h2 : VE X G (.BoolOp .And (b :: rest) pos) qe) : VE X G (.BoolOp .And (a :: b :: rest) pos) (vAndE pe qe) :=
  ⟨vAndE_mono h.mono h2.mono, fun We tk => (pe_and (h.run We tk) (h2.run We tk)).weak fun σ H Q ⟨hs, ρ, O, st, z⟩ => ⟨hs, ρ, O, st, h.mono ρ _ _ _ _ (fun sv r z v H1 O1 st1 rv => by
    obtain ⟨b, rfl, z⟩ := vBoolK_run z rv
    refine ⟨b, rfl, ?_⟩
    split at z
    · rename_i hb; rw [if_pos hb]; exact ⟨hs, r, O1, st1, z⟩
    · rename_i hb; rw [if_neg hb]; exact z _ H1 O1 st1 res_bl) (fun _ _ _ w => w) z⟩⟩
theorem ve_or (h : VE X G a pe) (h2 : VE X G (.BoolOp .Or (b :: rest) pos) qe) : VE X G (.BoolOp .Or (a :: b :: rest) pos) (vOrE pe qe) :=
  ⟨vOrE_mono h.mono h2.mono, fun We tk => (pe_or (h.run We tk) (h2.run We tk)).weak fun σ H Q ⟨hs, ρ, O, st, z⟩ => ⟨hs, ρ, O, st, h.mono ρ _ _ _ _ (fun sv r z v H1 O1 st1 rv => by
    obtain ⟨b, rfl, z⟩ := vBoolK_run z rv
    refine ⟨b, rfl, ?_⟩
    split at z
    · rename_i hb; rw [if_pos hb]; exact z _ H1 O1 st1 res_bl
    · rename_i hb; rw [if_neg hb]; exact ⟨hs, r, O1, st1, z⟩) (fun _ _ _ w => w) z⟩⟩
theorem ve_not (h : VE X G a pe) : VE X G (.UnaryOp .Not a pos) (vNotE pe) :=
  ⟨vNotE_mono h.mono, fun We tk => (pe_not (h.run We tk)).weak fun σ H Q ⟨hs, ρ, O, st, z⟩ => ⟨hs, ρ, O, st, h.mono ρ _ _ _ _ (fun sv r z v H1 O1 st1 rv => by
    obtain ⟨b, rfl, z⟩ := vBoolK_run z rv
    exact ⟨b, rfl, z _ H1 O1 st1 res_bl⟩) (fun _ _ _ w => w) z⟩⟩
def vIfE (c : PTv) (p q : PEv) : PEv := fun ρ Q W => c ρ (fun b r => if b = true then p r Q W else q r Q W) W
theorem vIfE_mono {c : PTv} (hc : TMono c) (h : EMono pe) (h2 : EMono qe) : EMono (vIfE c pe qe) := fun ρ Q Q' W W' hQ hW z => hc ρ _ _ W W' (fun b r z => by
  split at z
  · rename_i hb; rw [if_pos hb]; exact h r _ _ W W' hQ hW z
  · rename_i hb; rw [if_neg hb]; exact h2 r _ _ W W' hQ hW z) hW z
theorem ve_if {c : Expr} {pc : PTv} (hc : VT X G c pc) (h : VE X G a pe) (h2 : VE X G b qe) : VE X G (.IfExp c a b pos) (vIfE pc pe qe) :=
  ⟨vIfE_mono hc.mono h.mono h2.mono, fun We tk => (pe_ifExp (hc.run We tk) (h.run We tk) (h2.run We tk)).weak fun σ H Q ⟨hs, ρ, O, st, z⟩ => ⟨hs, ρ, O, st, hc.mono ρ _ _ _ _ (fun b r z H1 O1 st1 => by
    split at z
    · rename_i hb; rw [if_pos hb]; exact ⟨hs, r, O1, st1, z⟩
    · rename_i hb; rw [if_neg hb]; exact ⟨hs, r, O1, st1, z⟩) (fun _ _ _ w => w) z⟩⟩
end

/-! ### a < b < c -/
def vChain (f g : F2) (pa pb pc : OpP) : PEv := fun ρ Q W => vOp pa ρ (fun x ρ1 => vOp pb ρ1 (fun y ρ2 => match x.get ρ2, y.get ρ2 with
  | some d, some e => f d e fun sv => vBoolK sv fun b => if b = true then vOp pc ρ2 (fun z ρ3 => match y.get ρ3, z.get ρ3 with
      | some e', some u => g e' u fun sv => Q sv ρ3
      | _, _ => False) W
    else Q (.sh (.bl false)) ρ2
  | _, _ => False) W) W
section
variable {X : Cx} {G : Gh} {We : Hd → WxV} {a b c : Expr} {pa pb pc : OpP} {pos : Pos} {f g : F2} {r r' : R2}
theorem vChain_mono (fm : f.Mono) (gm : g.Mono) (ha : OMono pa) (hb : OMono pb) (hc : OMono pc) : EMono (vChain f g pa pb pc) := fun ρ Q Q' W W' hQ hW h => by
  refine ha ρ _ _ W W' (fun x r q => hb r _ _ W W' (fun y r2 q2 => ?_) hW q) hW h
  split at q2
  · refine fm _ _ _ _ (fun sv q3 => vBoolK_mono (fun b q4 => ?_) q3) q2
    split at q4
    · rename_i hb'
      rw [if_pos hb']
      refine hc r2 _ _ W W' (fun z r3 q5 => ?_) hW q4
      split at q5
      · exact gm _ _ _ _ (fun sv q6 => hQ _ _ q6) q5
      · exact q5.elim
    · rename_i hb'
      rw [if_neg hb']
      exact hQ _ _ q4
  · exact q2.elim
/-- a comparison's answer leaves the state as it is -/
def OpB (X : Cx) (G : Gh) (r : R2) (f : F2) : Prop := ∀ (σ : L2.St) (hs : Hd) (ρ : Env) (O : Own) (H : Hp) (x y : V) (d e : D) (Q : VK), StR G X.K hs σ H ρ O → View X.K O H d x → View X.K O H e y →
  f d e (fun sv => vBoolK sv fun b => Q (.bl b) H) → r x y H Q
theorem tChain_of (fm : f.Mono) (gm : g.Mono) (hv : OpB X G r f) (hv' : OpV X G r' g) (ha : OMono pa) (hb : OMono pb) (hc : OMono pc) (up : Up We) {σ : L2.St} {H : Hp} {Q : VK} (q : TV G X.K (vChain f g pa pb pc) We σ H Q) :
    tChain r r' (TOp G X.K pa We) (TOp G X.K pb We) (TOp G X.K pc We) σ H Q := by
  obtain ⟨hs, ρ, O, st, q⟩ := q
  refine ⟨hs, ρ, O, st, ha ρ _ _ _ _ (fun x r1 q x' H1 O1 st1 rx => ?_) (fun _ _ _ w => w) q⟩
  refine ⟨x.hold x' hs, r1, O1, st1.holdA rx, hb r1 _ _ _ _ (fun y r2 q2 y' H2 O2 st2 ry => ?_) (up _ _ hold_sub) q⟩
  have rx2 : AvR σ X.K O2 H2 x x' := st2.heldA rx hold_nil
  split at q2
  · rename_i d e hd he
    have st3 := st2.fewer (hs' := hs) hold_sub
    refine hv σ hs r2 O2 H2 x' y' d e _ st3 (st2.view rx2 hd) (st2.view ry he) (fm _ _ _ _ (fun sv q3 => vBoolK_mono (fun b q4 => ⟨b, rfl, ?_⟩) q3) q2)
    split at q4
    · rename_i hb'
      rw [if_pos hb']
      refine ⟨y.hold y' hs, r2, O2, st3.holdA ry, hc r2 _ _ _ _ (fun z r3 q5 z' H3 O3 st4 rz => ?_) (up _ _ hold_sub) q4⟩
      have ry3 : AvR σ X.K O3 H3 y y' := st4.heldA ry hold_nil
      split at q5
      · rename_i e' u he' hu
        have st5 := st4.fewer (hs' := hs) hold_sub
        exact hv' σ hs r3 O3 H3 y' z' e' u Q st5 (st4.view ry3 he') (st4.view rz hu) q5
      · exact q5.elim
    · rename_i hb'
      rw [if_neg hb']
      exact q4 _ H2 O2 st3 res_bl
  · exact q2.elim
theorem ve_chain {op op' : CmpOp} (ho : OpR X (compareOp op) r) (ho' : OpR X (compareOp op') r') (hv : OpB X G r f) (hv' : OpV X G r' g) (fm : f.Mono) (gm : g.Mono) (ha : VO X G a pa) (hb : VO X G b pb) (hc : VO X G c pc)
    (hm : lastMarks [op, op'] [b, c] = false := by with_unfolding_all rfl) : VE X G (.Compare a [op, op'] [b, c] pos) (vChain f g pa pb pc) :=
  ⟨vChain_mono fm gm ha.mono hb.mono hc.mono, fun We tk => (pe_chain ho ho' (ha.run We tk) (hb.run We tk) (hc.run We tk) hm).weak fun σ H Q q => tChain_of fm gm hv hv' ha.mono hb.mono hc.mono tk.up q⟩
theorem vt_chain {op op' : CmpOp} (ho : OpR X (compareOp op) r) (ho' : OpR X (compareOp op') r') (hv : OpB X G r f) (hv' : OpV X G r' g) (fm : f.Mono) (gm : g.Mono) (ha : VO X G a pa) (hb : VO X G b pb) (hc : VO X G c pc)
    (hm : lastMarks [op, op'] [b, c] = false := by with_unfolding_all rfl) : VT X G (.Compare a [op, op'] [b, c] pos) (vTest (vChain f g pa pb pc)) :=
  ⟨vTest_mono (vChain_mono fm gm ha.mono hb.mono hc.mono), fun We tk => (pt_chain ho ho' (ha.run We tk) (hb.run We tk) (hc.run We tk) hm).weak fun σ H Q q => by
    have q' := tTest_of (vChain_mono fm gm ha.mono hb.mono hc.mono) q
    exact tChain_of fm gm hv hv' ha.mono hb.mono hc.mono tk.up q'⟩
theorem ob_IB {g : Int → Int → Bool} : OpB X G (rI0 fun i j => .bl (g i j)) (fIB g) := by
  intro σ hs ρ O H x y d e Q st vx vy hf
  unfold fIB at hf
  split at hf
  · rw [view_int vx, view_int vy]
    exact ⟨_, _, rfl, rfl, hf⟩
  · exact hf.elim
end
end Vx

namespace Vx
open PySem PySem.Spec PyProof.Rows L2

/-! ### targets -/
abbrev PGv := SV → Env → (Env → Prop) → Prop
def GMono (g : PGv) : Prop := ∀ sv ρ (k k' : Env → Prop), (∀ r, k r → k' r) → g sv ρ k → g sv ρ k'
/-- only these slots change -/
def Only (is : List Nat) (σ σ' : L2.St) : Prop := σ'.length = σ.length ∧ ∀ j, j ∉ is → σ'[j]? = σ[j]?
theorem Only.refl (is : List Nat) (σ : L2.St) : Only is σ σ := ⟨rfl, fun _ _ => rfl⟩
theorem Only.trans {is js : List Nat} {σ σ1 σ2 : L2.St} (a : Only is σ σ1) (b : Only js σ1 σ2) : Only (is ++ js) σ σ2 :=
  ⟨b.1.trans a.1, fun j hj => (b.2 j fun z => hj (List.mem_append_right _ z)).trans (a.2 j fun z => hj (List.mem_append_left _ z))⟩
def TGv (G : Gh) (K : PySem.W.Frag) (g : PGv) (is : List Nat) : TG := fun v σ H Q => ∃ hs ρ O sv, StR G K hs σ H ρ O ∧ ResR G K hs σ ρ O H sv v ∧ g sv ρ (fun ρ' => ∀ σ' O', Only is σ σ' → StR G K hs σ' H ρ' O' → Q σ' H)
structure VG (X : Cx) (G : Gh) (e : Expr) (g : PGv) (is : List Nat) : Prop where
  mono : GMono g
  run : PG X e (TGv G X.K g is)
theorem _root_.L2.PG.weak {X : Cx} {e : Expr} {t t' : TG} (h : PG X e t) (hw : ∀ v σ H Q, t' v σ H Q → t v σ H Q) : PG X e t' := ⟨fun pins s σ H v u Q I r q => h.run pins s σ H v u Q I r (hw v σ H Q q)⟩
theorem _root_.L2.PGs.weak {X : Cx} {e : List Expr} {t t' : TGs} (h : PGs X e t) (hw : ∀ v σ H Q, t' v σ H Q → t v σ H Q) : PGs X e t' := ⟨fun pins s σ H v u Q I r q => h.run pins s σ H v u Q I r (hw v σ H Q q)⟩
def vgName (i : Nat) : PGv := fun sv ρ k => k (ρ.set i (some sv))
abbrev PGsv := List D → Env → (Env → Prop) → Prop
def vgNil : PGsv := fun ds ρ k => ds = [] ∧ k ρ
def vgCons (g : PGv) (gs : PGsv) : PGsv := fun ds ρ k => match ds with
  | d :: ds => g (.sh d) ρ fun r => gs ds r k
  | [] => False
def vgTup (n : Nat) (gs : PGsv) : PGv := fun sv ρ k => match sv with
  | .sh (.tup ds) => ds.length = n ∧ gs ds ρ k
  | _ => False
def GsMono (g : PGsv) : Prop := ∀ sv ρ (k k' : Env → Prop), (∀ r, k r → k' r) → g sv ρ k → g sv ρ k'
def TGsv (G : Gh) (K : PySem.W.Frag) (g : PGsv) (is : List Nat) : TGs := fun vs σ H Q => ∃ hs ρ O ds, StR G K hs σ H ρ O ∧ RepL K O H ds vs ∧ g ds ρ (fun ρ' => ∀ σ' O', Only is σ σ' → StR G K hs σ' H ρ' O' → Q σ' H)
structure VGs (X : Cx) (G : Gh) (es : List Expr) (g : PGsv) (is : List Nat) : Prop where
  mono : GsMono g
  run : PGs X es (TGsv G X.K g is)
def zipV : List D → List V → Hd
  | d :: ds, v :: vs => .val d v :: zipV ds vs
  | _, _ => []
theorem StR.holdL {G : Gh} {K : PySem.W.Frag} {hs : Hd} {σ : L2.St} {H : Hp} {ρ : Env} {O : Own} (st : StR G K hs σ H ρ O) : ∀ {ds : List D} {vs : List V}, RepL K O H ds vs → StR G K (zipV ds vs ++ hs) σ H ρ O
  | [], vs, _ => by cases vs <;> exact st
  | d :: ds, vs, r => by
    obtain ⟨y, ys, rfl, ry, rs⟩ := repL_cons.mp r
    exact (st.holdL rs).hold ry
theorem StR.heldL {G : Gh} {K : PySem.W.Frag} {hs : Hd} {σ : L2.St} {H : Hp} {ρ : Env} {O : Own} (st : StR G K hs σ H ρ O) : ∀ {ds : List D} {vs : List V}, vs.length = ds.length → (∀ p, p ∈ zipV ds vs → p ∈ hs) → RepL K O H ds vs
  | [], [], _, _ => repL_nil.mpr rfl
  | d :: ds, v :: vs, e, h => repL_cons.mpr ⟨v, vs, rfl, st.held d v (h _ List.mem_cons_self), st.heldL (by simpa using e) fun p hp => h p (List.mem_cons_of_mem _ hp)⟩
section
variable {X : Cx} {G : Gh} {We : Hd → WxV} {e : Expr} {es : List Expr} {g : PGv} {gs : PGsv} {pos : Pos} {n : Nat} {is js : List Nat}
theorem vg_name {i : Nat} {x : Str} (hN : X.N.Nodup) (hi : X.N[i]? = some x) (hx : Loc X.env.scope x) (hf : X.fn x = true ∨ X.env.scope.names.lookup x = some .local := by first | exact .inl rfl | exact .inr rfl | assumption) : VG X G (.Name x pos) (vgName i) [i] :=
  ⟨fun sv ρ k k' hk h => hk _ h, (pg_name hN hi hx hf).weak fun v σ H Q ⟨hs, ρ, O, sv, st, r, q⟩ => q _ O ⟨List.length_set, fun j hj => List.getElem?_set_ne (fun z => hj (by rw [z]; exact List.mem_cons_self))⟩ (st.set r)⟩
theorem vgs_nil : VGs X G [] vgNil [] := ⟨fun sv ρ k k' hk h => ⟨h.1, hk _ h.2⟩, pgs_nil.weak fun vs σ H Q ⟨hs, ρ, O, ds, st, r, e, q⟩ => by
  subst e
  exact ⟨repL_nil.mp r, q σ O (Only.refl _ _) st⟩⟩
theorem vgs_cons (h1 : VG X G e g is) (h2 : VGs X G es gs js) (hs : (assignEach (e :: es) X.env).map (·.2) = assign e X.env :: (assignEach es X.env).map (·.2) := by rfl) : VGs X G (e :: es) (vgCons g gs) (is ++ js) := by
  refine ⟨fun ds ρ k k' hk h => ?_, (pgs_cons h1.run h2.run hs).weak fun vs σ H Q ⟨hs', ρ, O, ds, st, r, q⟩ => ?_⟩
  · cases ds with
    | nil => exact h
    | cons d ds => exact h1.mono _ _ _ _ (fun r q => h2.mono _ _ _ _ hk q) h
  · cases ds with
    | nil => exact (show False from q).elim
    | cons d ds =>
      obtain ⟨y, ys, rfl, ry, rs⟩ := repL_cons.mp r
      refine ⟨y, ys, rfl, zipV ds ys ++ hs', ρ, O, .sh d, st.holdL rs, ry, h1.mono _ _ _ _ (fun r q σ' O' on st' => ?_) q⟩
      refine ⟨hs', r, O', ds, st'.fewer fun p hp => List.mem_append_right _ hp, st'.heldL rs.length fun p hp => List.mem_append_left _ hp, h2.mono _ _ _ _ (fun r2 q σ2 O2 on2 st2 => q σ2 O2 (on.trans on2) st2) q⟩
theorem vg_tup {j : Nat} (hc : X.calm = true) (h : VGs X G es gs is) (hn : (assignEach es X.env).length = n := by rfl) (hst : (assignEach es X.env).findIdx? (·.1) = none := by rfl) : VG X G (.Tuple es j pos) (vgTup n gs) is := by
  refine ⟨fun sv ρ k k' hk q => ?_, (pg_tup hc h.run hn hst).weak fun v σ H Q ⟨hs, ρ, O, sv, st, r, q⟩ => ?_⟩
  · unfold vgTup at q ⊢
    split at q
    · exact ⟨q.1, h.mono _ _ _ _ hk q.2⟩
    · exact q.elim
  · unfold vgTup at q
    split at q
    · rename_i ds
      have r' : Rep X.K O H (.tup ds) v := r
      obtain ⟨a, xs, rfl, t, rr⟩ := rep_tup.mp r'
      exact ⟨a, xs, rfl, t.sq, rr.length.trans q.1, hs, ρ, O, ds, st, rr, q.2⟩
    · exact q.elim
end

/-! ### statements -/
def vsNext : PSv := fun ρ D => D.nx ρ
def vsSeq (p q : PSv) : PSv := fun ρ D => p ρ { D with nx := fun r => q r D }
theorem vsNext_mono : SMono vsNext := fun ρ D D' hl h => hl.nx _ h
theorem vsSeq_mono {p q : PSv} (h : SMono p) (h2 : SMono q) : SMono (vsSeq p q) := fun ρ D D' hl z => h ρ { D with nx := fun r => q r D } { D' with nx := fun r => q r D' } ⟨fun r z => h2 r _ _ hl z, hl.rt, hl.bk, hl.ct, hl.ex⟩ z
def vsRet (p : PEv) : PSv := fun ρ D => p ρ D.rt D.ex
def vsRetN : PSv := fun ρ D => D.rt (.sh .non) ρ
def vsDrop (p : PEv) : PSv := fun ρ D => p ρ (fun _ r => D.nx r) D.ex
def vsAsg (p : PEv) (g : PGv) : PSv := fun ρ D => p ρ (fun sv r => g sv r D.nx) D.ex
def vsIf (c : PTv) (p q : PSv) : PSv := fun ρ D => c ρ (fun b r => if b = true then p r D else q r D) D.ex
def vsCont : PSv := fun ρ D => D.ct ρ
def vsBreak : PSv := fun ρ D => D.bk ρ
theorem vsRet_mono {p : PEv} (h : EMono p) : SMono (vsRet p) := fun ρ D D' hl z => h ρ _ _ _ _ hl.rt hl.ex z
theorem vsRetN_mono : SMono vsRetN := fun ρ D D' hl z => hl.rt _ _ z
theorem vsDrop_mono {p : PEv} (h : EMono p) : SMono (vsDrop p) := fun ρ D D' hl z => h ρ _ _ _ _ (fun _ _ q => hl.nx _ q) hl.ex z
theorem vsAsg_mono {p : PEv} {g : PGv} (h : EMono p) (h2 : GMono g) : SMono (vsAsg p g) := fun ρ D D' hl z => h ρ _ _ _ _ (fun sv r q => h2 sv r _ _ hl.nx q) hl.ex z
theorem vsIf_mono {c : PTv} {p q : PSv} (hc : TMono c) (h : SMono p) (h2 : SMono q) : SMono (vsIf c p q) := fun ρ D D' hl z => hc ρ _ _ _ _ (fun b r z => by
  split at z
  · rename_i hb; rw [if_pos hb]; exact h r D D' hl z
  · rename_i hb; rw [if_neg hb]; exact h2 r D D' hl z) hl.ex z
section
variable {X : Cx} {G : Gh} {We : Hd → WxV} {st : Stmt} {rest : List Stmt} {p q : PSv} {e : Expr} {pe : PEv} {g : PGv} {pos : Pos} {is : List Nat}
theorem vss_nil : VSs X G [] vsNext := ⟨vsNext_mono, fun We tk => pss_nil.weak fun D σ H ⟨hs, ρ, O, st, z⟩ => z σ H O st⟩
theorem vss_cons (h : VS X G st p) (h2 : VSs X G rest q) : VSs X G (st :: rest) (vsSeq p q) :=
  ⟨vsSeq_mono h.mono h2.mono, fun We tk => (pss_cons (h.run We tk) (h2.run We tk)).weak fun D σ H ⟨hs, ρ, O, st, z⟩ =>
    ⟨hs, ρ, O, st, h.mono ρ { dR G X.K hs D (We hs) with nx := fun r => q r (dR G X.K hs D (We hs)) } (dR G X.K hs { D with nx := TSv G X.K q We D } (We hs)) ⟨fun r z σ' H' O' st' => ⟨hs, r, O', st', z⟩, fun _ _ z => z, fun _ z => z, fun _ z => z, fun _ _ _ z => z⟩ z⟩⟩
theorem vss_one (h : VS X G st p) : VSs X G [st] p := ⟨h.mono, fun We tk => pss_one (h.run We tk)⟩
theorem vs_pass : VS X G (.Pass pos) vsNext := ⟨vsNext_mono, fun We tk => ps_pass.weak fun D σ H ⟨hs, ρ, O, st, z⟩ => z σ H O st⟩
theorem vs_cont : VS X G (.Continue pos) vsCont := ⟨fun ρ D D' hl z => hl.ct _ z, fun We tk => ps_continue.weak fun D σ H ⟨hs, ρ, O, st, z⟩ => z σ H O st⟩
theorem vs_break : VS X G (.Break pos) vsBreak := ⟨fun ρ D D' hl z => hl.bk _ z, fun We tk => ps_break.weak fun D σ H ⟨hs, ρ, O, st, z⟩ => z σ H O st⟩
theorem vs_ret (h : VE X G e pe) : VS X G (.Return (some e) pos) (vsRet pe) :=
  ⟨vsRet_mono h.mono, fun We tk => (ps_ret (h.run We tk)).weak fun D σ H ⟨hs, ρ, O, st, z⟩ => ⟨hs, ρ, O, st, h.mono ρ _ _ _ _ (fun sv r z v H' O' st' rv => z v σ H' O' st' rv) (fun _ _ _ w => w) z⟩⟩
theorem vs_retN : VS X G (.Return none pos) vsRetN := ⟨vsRetN_mono, fun We tk => ps_retN.weak fun D σ H ⟨hs, ρ, O, st, z⟩ => z .non σ H O st res_non⟩
theorem vs_expr (h : VE X G e pe) (hs : swapsWith e none pos.line X.env = pure false := by rfl) : VS X G (.Expr e pos) (vsDrop pe) :=
  ⟨vsDrop_mono h.mono, fun We tk => (ps_expr (h.run We tk) hs).weak fun D σ H ⟨hs, ρ, O, st, z⟩ => ⟨hs, ρ, O, st, h.mono ρ _ _ _ _ (fun sv r z v H' O' st' rv => z σ H' O' st') (fun _ _ _ w => w) z⟩⟩
theorem vs_asg {tg : Expr} (h : VE X G e pe) (h2 : VG X G tg g is) (hs : swapsWithSole [tg] e pos.line X.env = pure false := by rfl) (hw : swappedStores [tg] e X.env = pure none := by rfl)
    (h1 : (assignEach [tg] X.env).map (·.2) = [assign tg X.env] := by rfl) : VS X G (.Assign [tg] e pos) (vsAsg pe g) :=
  ⟨vsAsg_mono h.mono h2.mono, fun We tk => (ps_asg (h.run We tk) h2.run hs hw h1).weak fun D σ H ⟨hs, ρ, O, st, z⟩ => ⟨hs, ρ, O, st, h.mono ρ _ _ _ _ (fun sv r z v H' O' st' rv =>
    ⟨hs, r, O', sv, st', rv, h2.mono sv r _ _ (fun r' z σ' O2 _ st2 => z σ' H' O2 st2) z⟩) (fun _ _ _ w => w) z⟩⟩
theorem vs_set {i : Nat} {x : Str} {pos' : Pos} (hN : X.N.Nodup) (hi : X.N[i]? = some x) (hx : Loc X.env.scope x) (h : VE X G e pe) (hs : swapsWith e (some (.Name x pos')) pos.line X.env = pure false := by rfl)
    (hf : X.fn x = true ∨ X.env.scope.names.lookup x = some .local := by first | exact .inl rfl | exact .inr rfl | assumption) : VS X G (.Assign [.Name x pos'] e pos) (vsAsg pe (vgName i)) :=
  ⟨vsAsg_mono h.mono (fun sv ρ k k' hk h => hk _ h), fun We tk => (ps_set hN hi hx (h.run We tk) hs hf).weak fun D σ H ⟨hs, ρ, O, st, z⟩ => ⟨hs, ρ, O, st, h.mono ρ _ _ _ _ (fun sv r z v H' O' st' rv =>
    z _ H' O' (st'.set rv)) (fun _ _ _ w => w) z⟩⟩
theorem vs_if {c : Expr} {a b : List Stmt} {pc : PTv} (hc : VT X G c pc) (h : VSs X G a p) (h2 : VSs X G b q) : VS X G (.If c a b pos) (vsIf pc p q) :=
  ⟨vsIf_mono hc.mono h.mono h2.mono, fun We tk => (ps_if (hc.run We tk) (h.run We tk) (h2.run We tk)).weak fun D σ H ⟨hs, ρ, O, st, z⟩ => ⟨hs, ρ, O, st, hc.mono ρ _ _ _ _ (fun b r z H' O' st' => by
    split at z
    · rename_i hb; rw [if_pos hb]; exact ⟨hs, r, O', st', z⟩
    · rename_i hb; rw [if_neg hb]; exact ⟨hs, r, O', st', z⟩) (fun _ _ _ w => w) z⟩⟩
/-- a, b = x, y with plain names: no pair is made -/
def vsPar (i j : Nat) (ps : List PEv) : PSv := fun ρ D => vVals ps ρ (fun ds r => match ds with
  | [d, e] => D.nx ((r.set i (some (.sh d))).set j (some (.sh e)))
  | _ => False) D.ex
theorem vs_par {i j : Nat} {x y : Str} {a b : Expr} {ps : List PEv} {px py pt : Pos} {kt k2 pt2} (hc : X.calm = true) (hN : X.N.Nodup) (hi : X.N[i]? = some x) (hj : X.N[j]? = some y) (hij : i ≠ j)
    (hx : X.env.scope.names.lookup x = some .local) (hy : X.env.scope.names.lookup y = some .local) (ha : VL X G [a, b] ps)
    (hw : swappedStores [.Tuple [.Name x px, .Name y py] kt pt] (.Tuple [a, b] k2 pt2) X.env = pure (some [x, y]))
    (hs : swapsWithSole [.Tuple [.Name x px, .Name y py] kt pt] (.Tuple [a, b] k2 pt2) pos.line X.env = pure false := by rfl) :
    VS X G (.Assign [.Tuple [.Name x px, .Name y py] kt pt] (.Tuple [a, b] k2 pt2) pos) (vsPar i j ps) := by
  refine ⟨fun ρ D D' hl z => ha.mono ρ _ _ _ _ (fun ds r z => ?_) hl.ex z, fun We tk => (ps_par hc hN hi hj hij hx hy (ha.run We tk) hw hs).weak fun D σ H ⟨hs, ρ, O, st, z⟩ => ⟨hs, ρ, O, st, ha.mono ρ _ _ _ _ (fun ds r z vs H' O' st' rv => ?_) (fun _ _ _ w => w) z⟩⟩
  · split at z
    · exact hl.nx _ z
    · exact z.elim
  · split at z
    · rename_i d e
      obtain ⟨v, vs1, rfl, r1, rr⟩ := repL_cons.mp rv
      obtain ⟨w, vs2, rfl, r2, rr⟩ := repL_cons.mp rr
      rw [repL_nil.mp rr]
      refine ⟨v, w, rfl, z _ H' O' ?_⟩
      exact (st'.set (sv := .sh d) r1).set (sv := .sh e) r2
    · exact z.elim
end

/-! ### changing an own list -/
def SV.items : SV → List D
  | .ow ds => ds
  | .mu ds => ds
  | .bo ds => ds
  | .sh _ => []
  | .dc _ _ => []
abbrev FM := List D → List D → (List D → SV → Prop) → Prop
def FM.Mono (f : FM) : Prop := ∀ cs ds k k', (∀ new sv, k new sv → k' new sv) → f cs ds k → f cs ds k'
/-- a method of a slot's own list -/
def vMeth (i : Nat) (f : FM) (ps : List PEv) : PEv := fun ρ Q W => vRd i ρ fun sv0 => sv0.isOwn = true ∧ vVals ps ρ (fun ds ρ1 => vRd i ρ1 fun sv => sv.isOwn = true ∧ f sv.items ds fun new res => Q res (ρ1.set i (some (sv.with new)))) W
def MethV (X : Cx) (r : V → List V → Hp → VK → Prop) (f : FM) : Prop := ∀ (a : Addr) (xs vs : List V) (cs ds : List D) (O : Own) (H : Hp) (Q : VK), H a = some (.lst xs) → O a → RepL X.K O H cs xs → RepL X.K O H ds vs →
  f cs ds (fun new res => ∀ v xs', RepL X.K O H new xs' → (∃ d, res = .sh d ∧ Rep X.K O H d v) → Q v (upd H a (.lst xs'))) → r (.ref a) vs H Q
theorem vMeth_mono {i : Nat} {f : FM} {ps : List PEv} (fm : f.Mono) (h : VMono ps) : EMono (vMeth i f ps) := fun ρ Q Q' W W' hQ hW z => vRd_mono (fun sv0 z => ⟨z.1, h ρ _ _ _ _ (fun ds r z => vRd_mono (fun sv z => ⟨z.1, fm _ _ _ _ (fun new res z => hQ _ _ z) z.2⟩) z) hW z.2⟩) z
section
variable {X : Cx} {G : Gh} {We : Hd → WxV} {e o : Expr} {es : List Expr} {ps : List PEv} {i : Nat} {f : FM} {name : Str} {id : String} {r : V → List V → Hp → VK → Prop} {apos cpos pos : Pos}
theorem own_at {K : PySem.W.Frag} {hs : Hd} {σ : L2.St} {H : Hp} {ρ : Env} {O : Own} (st : StR G K hs σ H ρ O) {i : Nat} {sv : SV} (h : ρ[i]? = some (some sv)) (ho : sv.isOwn = true) :
    ∃ a xs, σ[i]? = some (some (V.ref a)) ∧ H a = some (.lst xs) ∧ O a ∧ RepL K O H sv.items xs := by
  obtain ⟨v, e1, r⟩ := st.slot i sv h
  cases sv with
  | ow ds => obtain ⟨a, xs, rfl, h1, h2, _, h3⟩ := r; exact ⟨a, xs, e1, h1, h2, h3⟩
  | mu ds => obtain ⟨a, xs, rfl, h1, h2, _, h3⟩ := r; exact ⟨a, xs, e1, h1, h2, h3⟩
  | sh d => cases ho
  | bo ds => cases ho
  | dc a kvs => cases ho
theorem StR.written {K : PySem.W.Frag} {hs : Hd} {σ : L2.St} {H : Hp} {ρ : Env} {O : Own} (st : StR G K hs σ H ρ O) {i : Nat} {sv : SV} {new : List D} {a : Addr} {xs' : List V} {d : D} {v : V} (h : ρ[i]? = some (some sv)) (ho : sv.isOwn = true) (e1 : σ[i]? = some (some (V.ref a)))
    (hO : O a) (rn : RepL K O H new xs') (rv : Rep K O H d v) : StR G K hs σ (upd H a (.lst xs')) (ρ.set i (some (sv.with new))) O ∧ Rep K O (upd H a (.lst xs')) d v := by
  refine ⟨st.write h ho e1 rn, Rep.stp ⟨fun b u e n => ?_, fun b h => .inl h⟩ d v rv⟩
  rw [upd_ne (fun z => by subst z; exact n hO)]
  exact e
theorem ve_meth (pa : PlainAttrs "list") (slot : Slot "list" name id) (hty : typeOf (.builtin id) = pure (.type "method_descriptor")) (hm : MtR X id r) (hf : MethV X r f) (fm : f.Mono) (ho : PE X o (tVar i)) (ha : VL X G (e :: es) ps)
    (hbase : attributeBase o name X.env (eval o X.env) = eval o X.env := by rfl)
    (hfew : ((backTo cpos (starEach (e :: es) X.env)).all (fun x => !x.1) && (backToKw cpos (keywordEach [] X.env)).all (fun x => x.1.isSome)
      && decide ((e :: es).length + ([] : List Keyword).length + (if ([] : List Keyword).isEmpty then 0 else 1) < 30)) = true := by rfl)
    (hline : (apos.endLine == cpos.line) = true := by rfl) (hs : starEach (e :: es) X.env = (false, eval e X.env) :: starEach es X.env := by rfl) (hplain : (backTo cpos (starEach es X.env)).any (·.1) = false := by rfl) :
    VE X G (.Call (.Attribute o name apos) (e :: es) [] cpos) (vMeth i f ps) := by
  refine ⟨vMeth_mono fm ha.mono, fun We tk => (pe_bm pa slot hty hm ho (ha.run We tk) hbase hfew hline hs hplain).weak fun σ H Q ⟨hs, ρ, O, st, z⟩ => ?_⟩
  obtain ⟨sv0, h0, ho0, z⟩ := vRd_some z
  obtain ⟨a, xs0, e0, hx0, _, _⟩ := own_at st h0 ho0
  refine ⟨.ref a, e0, .inl ⟨rfl, xs0, SqL.of hx0⟩, hs, ρ, O, st, ha.mono ρ _ _ _ _ (fun ds r z vs H1 O1 st1 rv => ?_) (fun _ _ _ w => w) z⟩
  obtain ⟨sv, h1, ho1, z⟩ := vRd_some z
  obtain ⟨a', xs, e1, hx, hO, rr⟩ := own_at st1 h1 ho1
  rw [e0] at e1
  cases e1
  refine hf a xs vs sv.items ds O1 H1 Q hx hO rr rv (fm _ _ _ _ (fun new res z v xs' rn rd => ?_) z)
  obtain ⟨d, rfl, rd⟩ := rd
  obtain ⟨st2, rd2⟩ := st1.written h1 ho1 e0 hO rn rd
  exact z v _ O1 st2 rd2
theorem ve_meth0 (pa : PlainAttrs "list") (slot : Slot "list" name id) (hty : typeOf (.builtin id) = pure (.type "method_descriptor")) (hm : MtR X id r) (hf : MethV X r f) (fm : f.Mono) (ho : PE X o (tVar i))
    (hbase : attributeBase o name X.env (eval o X.env) = eval o X.env := by rfl) (hline : (apos.endLine == cpos.line) = true := by rfl) : VE X G (.Call (.Attribute o name apos) [] [] cpos) (vMeth i f []) := by
  refine ⟨vMeth_mono fm (vl_nil (X := X) (G := G)).mono, fun We tk => (pe_bm0 pa slot hty hm ho hbase hline).weak fun σ H Q ⟨hs, ρ, O, st, z⟩ => ?_⟩
  obtain ⟨sv0, h0, ho0, z⟩ := vRd_some z
  obtain ⟨a, xs, e0, hx, hO, rr⟩ := own_at st h0 ho0
  refine ⟨.ref a, e0, .inl ⟨rfl, xs, SqL.of hx⟩, ?_⟩
  obtain ⟨sv, h1, ho1, z⟩ := vRd_some (show vRd i ρ _ from z)
  rw [h0] at h1
  cases h1
  refine hf a xs [] sv0.items [] O H Q hx hO rr (repL_nil.mpr rfl) (fm _ _ _ _ (fun new res z v xs' rn rd => ?_) z)
  obtain ⟨d, rfl, rd⟩ := rd
  obtain ⟨st2, rd2⟩ := st.written h0 ho0 e0 hO rn rd
  exact z v _ O st2 rd2
def fAppend : FM := fun cs ds k => match ds with
  | [d] => cs.length < 16777216 ∧ k (cs ++ [d]) (.sh .non)
  | _ => False
def fExtend : FM := fun cs ds k => match ds with
  | [.lst es] => cs.length + es.length ≤ 16777216 ∧ k (cs ++ es) (.sh .non)
  | _ => False
def fPop : FM := fun cs ds k => match ds, cs.getLast? with
  | [], some d => k cs.dropLast (.sh d)
  | _, _ => False
def fInsert : FM := fun cs ds k => match ds with
  | [.int i, d] => cs.length < 16777216 ∧ 0 ≤ i ∧ i < 2 ^ 62 ∧ k (cs.take i.toNat ++ d :: cs.drop i.toNat) (.sh .non)
  | _ => False
theorem fAppend_mono : FM.Mono fAppend := by
  intro cs ds k k' hk h
  unfold fAppend at h ⊢
  split at h
  · exact ⟨h.1, hk _ _ h.2⟩
  · exact h.elim
theorem fExtend_mono : FM.Mono fExtend := by
  intro cs ds k k' hk h
  unfold fExtend at h ⊢
  split at h
  · exact ⟨h.1, hk _ _ h.2⟩
  · exact h.elim
theorem fPop_mono : FM.Mono fPop := by
  intro cs ds k k' hk h
  unfold fPop at h ⊢
  split at h
  · exact hk _ _ h
  · exact h.elim
theorem lineL {n : Nat} (h : n < 16777216) : n < sizeLine := by rw [sizeLine_eq]; exact h
theorem mv_append : MethV X rAppend fAppend := by
  intro a xs vs cs ds O H Q hx hO rr rv h
  unfold fAppend at h
  split at h
  · rename_i d
    obtain ⟨v, vs1, rfl, r1, r2⟩ := repL_cons.mp rv
    rw [repL_nil.mp r2]
    exact ⟨a, xs, v, rfl, rfl, hx, lineL (by rw [rr.length]; exact h.1), h.2 .non _ (rr.append (RepL.one r1)) ⟨.non, rfl, rep_non.mpr rfl⟩⟩
  · exact h.elim
theorem mv_extend : MethV X rExtend fExtend := by
  intro a xs vs cs ds O H Q hx hO rr rv h
  unfold fExtend at h
  split at h
  · rename_i es
    obtain ⟨v, vs1, rfl, r1, r2⟩ := repL_cons.mp rv
    rw [repL_nil.mp r2]
    obtain ⟨b, ys, rfl, t, re⟩ := rep_lst.mp r1
    exact ⟨a, b, xs, ys, rfl, rfl, hx, t.1, lineN (by rw [rr.length, re.length]; exact h.1), h.2 .non _ (rr.append re) ⟨.non, rfl, rep_non.mpr rfl⟩⟩
  · exact h.elim
theorem RepL.dropLast {K : PySem.W.Frag} {O : Own} {H : Hp} {ds : List D} {xs : List V} (r : RepL K O H ds xs) : RepL K O H ds.dropLast xs.dropLast := by
  rw [List.dropLast_eq_take, List.dropLast_eq_take, r.length]
  exact r.take _
theorem mv_pop : MethV X rPop fPop := by
  intro a xs vs cs ds O H Q hx hO rr rv h
  unfold fPop at h
  split at h
  · rename_i d hd
    rw [repL_nil.mp rv]
    rw [List.getLast?_eq_getElem?] at hd
    obtain ⟨v, e1, r1⟩ := rr.get hd
    exact ⟨a, xs, v, rfl, rfl, hx, by rw [rr.length]; exact e1, h v _ rr.dropLast ⟨d, rfl, r1⟩⟩
  · exact h.elim
/-- xs[i] = e -/
def vsSetIx (i : Nat) (pi : OpP) (pe : PEv) : PSv := fun ρ D => pe ρ (fun sv ρ1 => vRd i ρ1 fun own0 => own0.isOwn = true ∧ vOp pi ρ1 (fun k ρ2 => match k.get ρ2 with
  | some (.int k) => vRd i ρ2 fun own => own.isOwn = true ∧ (match ixN own.items.length k with
    | some j => D.nx (ρ2.set i (some (own.with (own.items.set j sv.fz))))
    | none => False)
  | _ => False) D.ex) D.ex
theorem vsSetIx_mono {i : Nat} {pi : OpP} {pe : PEv} (hp : OMono pi) (he : EMono pe) : SMono (vsSetIx i pi pe) := fun ρ D D' hl z => he ρ _ _ _ _ (fun sv r z => vRd_mono (fun own0 z => ⟨z.1, hp r _ _ _ _ (fun k r2 z => by
  split at z
  · refine vRd_mono (fun own z => ⟨z.1, ?_⟩) z
    have z2 := z.2
    split at z2
    · exact hl.nx _ z2
    · exact z2.elim
  · exact z.elim) hl.ex z.2⟩) z) hl.ex z
theorem vs_setIx {pi : OpP} {pe : PEv} {ox ix val : Expr} {p2 : Pos} (hv : VE X G val pe) (ho : PE X ox (tVar i)) (hi : VO X G ix pi) (hs : swapsWithSole [.Subscript ox ix p2] val pos.line X.env = pure false := by rfl) (hw : swappedStores [.Subscript ox ix p2] val X.env = pure none := by rfl)
    (h1 : (assignEach [.Subscript ox ix p2] X.env).map (·.2) = [assign (.Subscript ox ix p2) X.env] := by rfl)
    (ha : ∀ v, assign (.Subscript ox ix p2) X.env v = (do
      let ov ← holding [v] (eval ox X.env)
      let iv ← holding [v, ov] (eval ix X.env)
      standAt p2
      holding [v, ov, iv] (setItem ov iv v)
      release [v, ov, iv] []) := by intro _; rfl) : VS X G (.Assign [.Subscript ox ix p2] val pos) (vsSetIx i pi pe) := by
  refine ⟨vsSetIx_mono hi.mono hv.mono, fun We tk => (ps_asg (hv.run We tk) (pg_sub ho (hi.run We tk) set_list ha) hs hw h1).weak fun D σ H ⟨hs, ρ, O, st, z⟩ => ?_⟩
  refine ⟨hs, ρ, O, st, hv.mono ρ _ _ _ _ (fun sv r z v H1 O1 st1 rv => ?_) (fun _ _ _ w => w) z⟩
  obtain ⟨O2, st2, _, rv2⟩ := ResR.freeze st1 rv
  obtain ⟨own0, h0, ho0, z⟩ := vRd_some z
  obtain ⟨a, xs0, e0, hx0, hO0, rr0⟩ := own_at st2 h0 ho0
  refine ⟨.ref a, e0, HdI.val sv.fz v :: hs, r, O2, st2.hold rv2, hi.mono r _ _ _ _ (fun k r2 z k' H3 O3 st3 rk => ?_) (tk.up _ _ fun p hp => List.mem_cons_of_mem _ hp) z⟩
  split at z
  · rename_i kk hk
    obtain ⟨own, h1, ho1, z⟩ := vRd_some z
    obtain ⟨a', xs, e1, hx, hO, rr⟩ := own_at st3 h1 ho1
    rw [e0] at e1
    cases e1
    split at z
    · rename_i j hj
      rw [view_int (st3.view rk hk)]
      refine ⟨a, xs, kk, j, rfl, rfl, hx, by rw [rr.length]; exact hj, ?_⟩
      have rv3 : Rep X.K O3 H3 sv.fz v := st3.held sv.fz v List.mem_cons_self
      have st4 := (st3.fewer (hs' := hs) fun p hp => List.mem_cons_of_mem _ hp).write h1 ho1 e0 (rr.set j rv3)
      exact z σ _ O3 st4
    · exact z.elim
  · exact z.elim
end
end Vx

namespace Vx
open PySem PySem.Spec PyProof.Rows L2

/-! ### for -/
abbrev PSrc := Env → (List D → Env → Prop) → WxV → Prop
def SrcMono (p : PSrc) : Prop := ∀ (ρ : Env) (k k' : List D → Env → Prop) (W W' : WxV), (∀ a r, k a r → k' a r) → (∀ c y r, W c y r → W' c y r) → p ρ k W → p ρ k' W'
/-- an iterator hands out these -/
def ItR (G : Gh) (K : PySem.W.Frag) (hs : Hd) (σ0 : L2.St) (J : It) (items : List D) : Prop := ∀ (hs2 : Hd) (i : Nat) (ρ : Env) (σ : L2.St) (H : Hp) (O : Own), (∀ p, p ∈ hs → p ∈ hs2) → StR G K hs2 σ H ρ O →
  (items.length ≤ i → J.stop i H) ∧ ∀ d, items[i]? = some d → J.go i H ∧ ∀ x H', J.yld i H x H' → ∃ O', StR G K hs2 σ H' ρ O' ∧ Rep K O' H' d x
structure VI (X : Cx) (G : Gh) (tg iter : Expr) (src : PSrc) : Prop where
  mono : SrcMono src
  run : ∀ We, Tk X G We → ∃ wi, PI X tg iter wi ∧ ∀ σ H R, (∃ hs ρ O, StR G X.K hs σ H ρ O ∧ src ρ (fun items ρ1 => ∀ J H1 hs1 O1, (∀ p, p ∈ hs → p ∈ hs1) → StR G X.K hs1 σ H1 ρ1 O1 → ItR G X.K hs1 σ J items → R J H1) (We hs)) → wi σ H R
def forL (g : PGv) (body : PSv) : List D → Env → VEnds → Prop
  | [], ρ, D => D.nx ρ
  | d :: ds, ρ, D => g (.sh d) ρ fun r => body r { D with nx := fun r => forL g body ds r D, ct := fun r => forL g body ds r D, bk := D.nx }
def vsFor (src : PSrc) (g : PGv) (body : PSv) : PSv := fun ρ D => src ρ (fun items r => forL g body items r D) D.ex
theorem forL_mono {g : PGv} {body : PSv} (hg : GMono g) (hb : SMono body) : ∀ (ds : List D) (ρ : Env) (D D' : VEnds), D.le D' → forL g body ds ρ D → forL g body ds ρ D'
  | [], ρ, D, D', hl, z => hl.nx _ z
  | d :: ds, ρ, D, D', hl, z => hg _ _ _ _ (fun r z => hb r { D with nx := fun r => forL g body ds r D, ct := fun r => forL g body ds r D, bk := D.nx } { D' with nx := fun r => forL g body ds r D', ct := fun r => forL g body ds r D', bk := D'.nx }
      ⟨fun r z => forL_mono hg hb ds r D D' hl z, hl.rt, hl.nx, fun r z => forL_mono hg hb ds r D D' hl z, hl.ex⟩ z) z
theorem vsFor_mono {src : PSrc} {g : PGv} {body : PSv} (hs : SrcMono src) (hg : GMono g) (hb : SMono body) : SMono (vsFor src g body) := fun ρ D D' hl z => hs ρ _ _ _ _ (fun items r z => forL_mono hg hb items r D D' hl z) hl.ex z
section
variable {X : Cx} {G : Gh} {We : Hd → WxV} {tg iter : Expr} {src : PSrc} {g : PGv} {body : List Stmt} {pb : PSv} {pos : Pos} {is : List Nat}
theorem vs_for (hc : X.calm = true) (hi : VI X G tg iter src) (hg : VG X G tg g is) (hb : VSs X G body pb) (hs : ∀ x, foldedSetIterable iter X.env x = pure x := by intro _; rfl) : VS X G (.For tg iter body [] pos) (vsFor src g pb) := by
  refine ⟨vsFor_mono hi.mono hg.mono hb.mono, fun We tk => ?_⟩
  obtain ⟨wi, hwi, hrun⟩ := hi.run We tk
  refine (ps_for tk.po hc hwi hg.run (hb.run We tk) hs).weak fun D σ H ⟨hs, ρ, O, st, z⟩ => ?_
  refine hrun σ H _ ⟨hs, ρ, O, st, hi.mono ρ _ _ _ _ (fun items r z J H1 hs1 O1 hsub st1 hJ => ?_) (fun _ _ _ w => w) z⟩
  refine ⟨fun i m σ H => ∃ ρ O, StR G X.K hs1 σ H ρ O ∧ i + m = items.length ∧ forL g pb (items.drop i) ρ (dR G X.K hs D (We hs)), ⟨items.length, r, O1, st1, by omega, by rw [List.drop_zero]; exact z⟩, ?_⟩
  rintro i m σ H ⟨ρ, O, st, hm, z⟩
  by_cases hi' : i < items.length
  · right
    have hd : items[i]? = some items[i] := List.getElem?_eq_getElem hi'
    obtain ⟨go, yl⟩ := (hJ hs1 i ρ σ H O (fun _ h => h) st).2 _ hd
    refine ⟨go, fun σ' H' => ∃ ρ O, StR G X.K hs1 σ' H' ρ O ∧ (i + 1) + (m - 1) = items.length ∧ forL g pb (items.drop (i + 1)) ρ (dR G X.K hs D (We hs)), fun σ' H' h => ⟨m - 1, by omega, h⟩, fun x H' hy => ?_⟩
    obtain ⟨O', st', rx⟩ := yl x H' hy
    rw [List.drop_eq_getElem_cons hi'] at z
    refine ⟨hs1, ρ, O', .sh items[i], st', rx, hg.mono _ _ _ _ (fun r z σ2 O2 _ st2 => ?_) z⟩
    refine ⟨hs1, r, O2, st2, hb.mono r { dR G X.K hs D (We hs) with nx := fun r => forL g pb (items.drop (i + 1)) r (dR G X.K hs D (We hs)), ct := fun r => forL g pb (items.drop (i + 1)) r (dR G X.K hs D (We hs)), bk := (dR G X.K hs D (We hs)).nx } _
      ⟨fun r z σ' H' O' st' => ⟨r, O', st', by omega, z⟩, fun sv r z v σ' H' O' st' rv => z v σ' H' O' (st'.fewer hsub) (rv.fewer hsub), fun r z σ' H' O' st' => z σ' H' O' (st'.fewer hsub), fun r z σ' H' O' st' => ⟨r, O', st', by omega, z⟩, fun c y r z => tk.up _ _ hsub c y r z⟩ z⟩
  · left
    rw [List.drop_eq_nil_of_le (by omega)] at z
    exact ⟨(hJ hs1 i ρ σ H O (fun _ h => h) st).1 (by omega), z σ H O (st.fewer hsub)⟩
/-- over a list or tuple that stands still -/
def srcL (p : PEv) : PSrc := fun ρ k W => p ρ (fun sv r => match sv.fz with
  | .lst ds => k ds r
  | _ => False) W
def srcT (p : PEv) : PSrc := fun ρ k W => p ρ (fun sv r => match sv.fz with
  | .tup ds => k ds r
  | _ => False) W
theorem vi_list {pe : PEv} (h : VE X G iter pe) : VI X G tg iter (srcL pe) := by
  refine ⟨fun ρ k k' W W' hk hW z => h.mono ρ _ _ _ _ (fun sv r z => ?_) hW z, fun We tk => ⟨_, pi_list (h.run We tk), fun σ H R ⟨hs, ρ, O, st, z⟩ => ?_⟩⟩
  · split at z
    · exact hk _ _ z
    · exact z.elim
  · refine ⟨hs, ρ, O, st, h.mono ρ _ _ _ _ (fun sv r z v H1 O1 st1 rv => ?_) (fun _ _ _ w => w) z⟩
    obtain ⟨O2, st2, _, rv2⟩ := ResR.freeze st1 rv
    split at z
    · rename_i ds hds
      rw [hds] at rv2
      obtain ⟨a, xs, rfl, t, rr⟩ := rep_lst.mp rv2
      refine ⟨a, rfl, ⟨xs, t.sq⟩, z (Itl X.K a) H1 (HdI.val (.lst ds) (.ref a) :: hs) O2 (fun p hp => List.mem_cons_of_mem _ hp) (st2.hold rv2) fun hs2 i ρ σ' H O hsub st => ?_⟩
      have hh : Rep X.K O H (.lst ds) (.ref a) := st.held (.lst ds) (.ref a) (hsub _ List.mem_cons_self)
      obtain ⟨a', ys, e, t', r'⟩ := rep_lst.mp hh
      cases e
      refine ⟨fun hle => ⟨ys, t'.sq, by rw [r'.length]; exact hle⟩, fun d hd => ?_⟩
      obtain ⟨x, hx, rx⟩ := r'.get hd
      refine ⟨⟨ys, x, t'.sq, hx⟩, fun y H' hy => ?_⟩
      obtain ⟨rfl, hy⟩ := hy
      have := hy ys t'.sq
      rw [hx] at this
      cases this
      exact ⟨O, st, rx⟩
    · exact z.elim
theorem vi_tup {pe : PEv} (h : VE X G iter pe) : VI X G tg iter (srcT pe) := by
  refine ⟨fun ρ k k' W W' hk hW z => h.mono ρ _ _ _ _ (fun sv r z => ?_) hW z, fun We tk => ⟨_, pi_tup (h.run We tk), fun σ H R ⟨hs, ρ, O, st, z⟩ => ?_⟩⟩
  · split at z
    · exact hk _ _ z
    · exact z.elim
  · refine ⟨hs, ρ, O, st, h.mono ρ _ _ _ _ (fun sv r z v H1 O1 st1 rv => ?_) (fun _ _ _ w => w) z⟩
    obtain ⟨O2, st2, _, rv2⟩ := ResR.freeze st1 rv
    split at z
    · rename_i ds hds
      rw [hds] at rv2
      obtain ⟨a, xs, rfl, t, rr⟩ := rep_tup.mp rv2
      refine ⟨a, rfl, ⟨xs, t.sq⟩, z (Itt X.K a) H1 (HdI.val (.tup ds) (.ref a) :: hs) O2 (fun p hp => List.mem_cons_of_mem _ hp) (st2.hold rv2) fun hs2 i ρ σ' H O hsub st => ?_⟩
      have hh : Rep X.K O H (.tup ds) (.ref a) := st.held (.tup ds) (.ref a) (hsub _ List.mem_cons_self)
      obtain ⟨a', ys, e, t', r'⟩ := rep_tup.mp hh
      cases e
      refine ⟨fun hle => ⟨ys, t'.sq, by rw [r'.length]; exact hle⟩, fun d hd => ?_⟩
      obtain ⟨x, hx, rx⟩ := r'.get hd
      refine ⟨⟨ys, x, t'.sq, hx⟩, fun y H' hy => ?_⟩
      obtain ⟨rfl, hy⟩ := hy
      have := hy ys t'.sq
      rw [hx] at this
      cases this
      exact ⟨O, st, rx⟩
    · exact z.elim
/-- range -/
def intsFrom (lo : Int) (n : Nat) : List D := (List.range n).map fun (i : Nat) => D.int (lo + (i : Int))
def srcR1 (p : OpP) : PSrc := fun ρ k W => vOp p ρ (fun a r => match a.get r with
  | some (.int n) => -(2 ^ 62) ≤ n ∧ n < 2 ^ 62 ∧ k (intsFrom 0 n.toNat) r
  | _ => False) W
def srcR2 (p q : OpP) : PSrc := fun ρ k W => vOps [p, q] ρ (fun as r => match getAll r as with
  | some [.int a, .int b] => (-(2 ^ 62) ≤ a ∧ a < 2 ^ 62 ∧ -(2 ^ 62) ≤ b ∧ b < 2 ^ 62) ∧ k (intsFrom a (b - a).toNat) r
  | _ => False) W
theorem itR_range {K : PySem.W.Frag} {hs : Hd} {σ0 : L2.St} {lo : Int} {n : Nat} : ItR G K hs σ0 (Itr lo n) (intsFrom lo n) := by
  intro hs2 i ρ σ H O _ st
  refine ⟨fun hle => by
    have : (intsFrom lo n).length = n := by unfold intsFrom; rw [List.length_map, List.length_range]
    show n ≤ i
    omega, fun d hd => ?_⟩
  unfold intsFrom at hd
  rw [List.getElem?_map] at hd
  cases e : (List.range n)[i]? with
  | none => rw [e] at hd; cases hd
  | some j =>
    rw [e] at hd
    obtain ⟨h1, h2⟩ := List.getElem?_eq_some_iff.mp e
    rw [List.getElem_range] at h2
    rw [List.length_range] at h1
    subst h2
    cases hd
    refine ⟨h1, fun x H' hy => ?_⟩
    obtain ⟨rfl, rfl⟩ := hy
    exact ⟨O, st, rep_int.mpr rfl⟩
theorem vi_range1 {a : Expr} {pa : OpP} {p : Pos} (hg : Gl X "range") (hm : X.mg "range" = none) (ha : VO X G a pa) (hs : starEach [a] X.env = [(false, eval a X.env)] := by rfl) (hs0 : starEach (a :: []) X.env = (false, eval a X.env) :: starEach [] X.env := by rfl) :
    VI X G tg (.Call (.Name "range" p) [a] [] pos) (srcR1 pa) := by
  refine ⟨fun ρ k k' W W' hk hW z => ha.mono ρ _ _ _ _ (fun a r z => ?_) hW z, fun We tk => ⟨_, pi_range1 hg hm ((va_cons ha va_nil hs0).run We tk) hs, fun σ H R ⟨hs, ρ, O, st, z⟩ => ?_⟩⟩
  · split at z
    · exact ⟨z.1, z.2.1, hk _ _ z.2.2⟩
    · exact z.elim
  · refine ⟨hs, ρ, O, st, ha.mono ρ _ _ _ _ (fun a r z vs H1 O1 st1 rv => ?_) (fun _ _ _ w => w) z⟩
    obtain ⟨v, r', rfl, r1, rfl⟩ := rv
    split at z
    · rename_i n hn
      exact ⟨n, by rw [view_int (st1.view r1 hn)], z.1, z.2.1, z.2.2 _ H1 hs O1 (fun _ h => h) st1 itR_range⟩
    · exact z.elim
theorem vi_range2 {a b : Expr} {pa pb : OpP} {p : Pos} (hg : Gl X "range") (hm : X.mg "range" = none) (ha : VA X G [a, b] [pa, pb]) (hs : starEach [a, b] X.env = [(false, eval a X.env), (false, eval b X.env)] := by rfl) (hs2 : starEach [b] X.env = [(false, eval b X.env)] := by rfl) :
    VI X G tg (.Call (.Name "range" p) [a, b] [] pos) (srcR2 pa pb) := by
  refine ⟨fun ρ k k' W W' hk hW z => ha.mono ρ _ _ _ _ (fun a r z => ?_) hW z, fun We tk => ⟨_, pi_range2 hg hm (ha.run We tk) hs hs2, fun σ H R ⟨hs, ρ, O, st, z⟩ => ?_⟩⟩
  · split at z
    · exact ⟨z.1, hk _ _ z.2⟩
    · exact z.elim
  · refine ⟨hs, ρ, O, st, ha.mono ρ _ _ _ _ (fun as r z vs H1 O1 st1 rv => ?_) (fun _ _ _ w => w) z⟩
    split at z
    · rename_i a b hn
      obtain ⟨v, r1, rfl, h1, h2⟩ := st1.viewL rv hn
      obtain ⟨w, r2, rfl, h3, h4⟩ := h2
      have h4' : r2 = [] := h4
      subst h4'
      exact ⟨a, b, by rw [view_int h1, view_int h3], z.1, z.2 _ H1 hs O1 (fun _ h => h) st1 itR_range⟩
    · exact z.elim

/-! ### while -/
def whileN (c : PTv) (body : PSv) : Nat → Env → VEnds → Prop
  | 0, _, _ => False
  | n + 1, ρ, D => c ρ (fun b r => if b = true then body r { D with nx := fun r => whileN c body n r D, ct := fun r => whileN c body n r D, bk := D.nx } else D.nx r) D.ex
def vsWhile (c : PTv) (body : PSv) : PSv := fun ρ D => ∃ n, whileN c body n ρ D
theorem whileN_mono {c : PTv} {body : PSv} (hc : TMono c) (hb : SMono body) : ∀ (n : Nat) (ρ : Env) (D D' : VEnds), D.le D' → whileN c body n ρ D → whileN c body n ρ D'
  | 0, _, _, _, _, z => z
  | n + 1, ρ, D, D', hl, z => hc ρ _ _ _ _ (fun b r z => by
    split at z
    · rename_i hb'
      rw [if_pos hb']
      exact hb r { D with nx := fun r => whileN c body n r D, ct := fun r => whileN c body n r D, bk := D.nx } { D' with nx := fun r => whileN c body n r D', ct := fun r => whileN c body n r D', bk := D'.nx }
        ⟨fun r z => whileN_mono hc hb n r D D' hl z, hl.rt, hl.nx, fun r z => whileN_mono hc hb n r D D' hl z, hl.ex⟩ z
    · rename_i hb'
      rw [if_neg hb']
      exact hl.nx _ z) hl.ex z
theorem vs_while {c : Expr} {pc : PTv} (hc : VT X G c pc) (hb : VSs X G body pb) : VS X G (.While c body [] pos) (vsWhile pc pb) := by
  refine ⟨fun ρ D D' hl ⟨n, z⟩ => ⟨n, whileN_mono hc.mono hb.mono n ρ D D' hl z⟩, fun We tk => (ps_while tk.po (hc.run We tk) (hb.run We tk)).weak fun D σ H ⟨hs, ρ, O, st, n, z⟩ => ?_⟩
  refine ⟨fun m σ H => ∃ ρ O, StR G X.K hs σ H ρ O ∧ whileN pc pb m ρ (dR G X.K hs D (We hs)), ⟨n, ρ, O, st, z⟩, ?_⟩
  rintro m σ H ⟨ρ, O, st, z⟩
  cases m with
  | zero => exact (show False from z).elim
  | succ m =>
    refine ⟨hs, ρ, O, st, hc.mono ρ _ _ _ _ (fun b r z H1 O1 st1 => ?_) (fun _ _ _ w => w) z⟩
    split at z
    · rename_i hb'
      rw [if_pos hb']
      refine ⟨fun σ' H' => ∃ ρ O, StR G X.K hs σ' H' ρ O ∧ whileN pc pb m ρ (dR G X.K hs D (We hs)), fun σ' H' h => ⟨m, Nat.lt_succ_self m, h⟩, hs, r, O1, st1, hb.mono r { dR G X.K hs D (We hs) with nx := fun r => whileN pc pb m r (dR G X.K hs D (We hs)), ct := fun r => whileN pc pb m r (dR G X.K hs D (We hs)), bk := (dR G X.K hs D (We hs)).nx } _
        ⟨fun r z σ' H' O' st' => ⟨r, O', st', z⟩, fun sv r z v σ' H' O' st' rv => z v σ' H' O' st' rv, fun r z σ' H' O' st' => z σ' H' O' st', fun r z σ' H' O' st' => ⟨r, O', st', z⟩, fun c y r z => z⟩ z⟩
    · rename_i hb'
      rw [if_neg hb']
      exact z σ H1 O1 st1
end

/-! ### defs -/
abbrev PFn := List SV → QV → WxV → Prop
def FMono (f : PFn) : Prop := ∀ args (Q Q' : QV) (W W' : WxV), (∀ sv r, Q sv r → Q' sv r) → (∀ c y r, W c y r → W' c y r) → f args Q W → f args Q' W'
/-- a body as a function: np parameters, n names in all -/
def startV (n : Nat) (args : List SV) : Env := args.map some ++ List.replicate (n - args.length) none
def fnRun (np n : Nat) (p : PSv) : PFn := fun args Q W => args.length = np ∧ p (startV n args) { nx := fun r => Q (.sh .non) r, rt := Q, ex := W }
theorem fnRun_mono {np n : Nat} {p : PSv} (h : SMono p) : FMono (fnRun np n p) := fun args Q Q' W W' hQ hW z => ⟨z.1, h _ { nx := fun r => Q (.sh .non) r, rt := Q, ex := W } { nx := fun r => Q' (.sh .non) r, rt := Q', ex := W' } ⟨fun r z => hQ _ _ z, hQ, fun _ z => z, fun _ z => z, hW⟩ z.2⟩
section
variable (K : PySem.W.Frag)
def ArgR (O : Own) (H : Hp) (mus : Nat → Option Addr) : SV → V → Prop
  | .sh d, v => Rep K O H d v
  | .mu ds, v => ∃ a xs, v = .ref a ∧ H a = some (.lst xs) ∧ O a ∧ RepL K O H ds xs
  | .bo ds, v => ∃ a xs, v = .ref a ∧ ((Rd H a (.lst xs) ∧ ∀ j, mus j ≠ some a) ∨ KL K a xs) ∧ RepL K O H ds xs
  | .ow _, _ => False
  | .dc _ _, _ => False
def musOf (args : List SV) (vs : List V) (i : Nat) : Option Addr := match args[i]?, vs[i]? with
  | some (.mu _), some (.ref a) => some a
  | _, _ => none
structure ArgsR (O : Own) (H : Hp) (args : List SV) (vs : List V) : Prop where
  len : vs.length = args.length
  at_ : ∀ (i : Nat) (sv : SV) (v : V), args[i]? = some sv → vs[i]? = some v → ArgR K O H (musOf args vs) sv v
  inj : ∀ (i j : Nat) (a : Addr), musOf args vs i = some a → musOf args vs j = some a → i = j
  alloc : ∀ a, O a → H a ≠ none
/-- behind a call -/
structure Post (O : Own) (H : Hp) (mus : Nat → Option Addr) (out : Env) (O' : Own) (H' : Hp) : Prop where
  more : ∀ a, O a → O' a
  keep : ∀ a o, H a = some o → (∀ i, mus i ≠ some a) → H' a = some o
  alloc : ∀ a, O' a → H' a ≠ none
  outs : ∀ (i : Nat) (a : Addr) (ds : List D), mus i = some a → slotOf out i = some (.mu ds) → ∃ xs, H' a = some (.lst xs) ∧ RepL K O' H' ds xs
def RetR (H : Hp) (O' : Own) (H' : Hp) : SV → V → Prop
  | .sh d, v => Rep K O' H' d v
  | .ow ds, v => ∃ a xs, v = .ref a ∧ H' a = some (.lst xs) ∧ O' a ∧ H a = none ∧ RepL K O' H' ds xs
  | .dc a kvs, v => v = .ref a ∧ O' a ∧ H a = none ∧ ∃ ys, H' a = some (.dT ys) ∧ KvR K O' H' kvs ys
  | _, _ => False
def spV (np : Nat) (f : PFn) : Sp := fun vs H Q E => vs.length = np ∧ ∃ O args, ArgsR K O H args vs ∧
  f args (fun sv out => ∀ v H' O', Post K O H (musOf args vs) out O' H' → RetR K H O' H' sv v → Q v H')
    (fun c y out => ∀ d H' O', Post K O H (musOf args vs) out O' H' → PayR K O' H' y d → E (clsV K c) d H')
end
/-- what a def promises where no guard is up -/
structure FnG (P : Program) (w : World) (K : PySem.W.Frag) (mg : Str → Option Value) (base : Heap) (k : Nat) (f : Addr) (fd : FuncData) (ps : List Str) (sp : Sp) : Prop where
  len : ∀ vs H Q E, sp vs H Q E → vs.length = ps.length
  run : ∀ (A : Around) (outer : List PySem.Env) (s : Shared) (H : Hp) (args : Args) (us : List Value) (vs : List V) (Q : VK) (E : XK), A.guards = some [] → Room k A → Env0 P w K mg base A outer s H →
    BindsTo s fd args (ps.zip us) → Vals vs us → sp vs H Q E → codeAny (model P w) A (.call (.ref f) args) (CR (L2.CX P w) outer P w H s Q E) s
theorem FnG.more {P : Program} {w : World} {K : PySem.W.Frag} {mg : Str → Option Value} {base : Heap} {j k : Nat} {f : Addr} {fd : FuncData} {ps : List Str} {sp : Sp} (F : FnG P w K mg base j f fd ps sp) (hj : j ≤ k) : FnG P w K mg base k f fd ps sp :=
  ⟨F.len, fun A outer s H args us vs Q E gd hr => F.run A outer s H args us vs Q E gd (hr.mono hj)⟩
theorem fnG_of {P : Program} {w : World} {K : PySem.W.Frag} {mg : Str → Option Value} {base : Heap} {x qual : Str} {params : Arguments} {body : List Stmt} {scope : Scope} {dvs : List V} {kws : List (Str × V)} {f : Addr} {fd : FuncData} {N ps : List Str} {k : Nat} {sp : Sp}
    (F : FunD K x qual params body scope dvs kws f fd) (S : FnScope N ps scope) (ln : ∀ vs H Q E, sp vs H Q E → vs.length = ps.length)
    (hb : ∀ (cdv : Value) (A : Around) (outer : List PySem.Env) (s : Shared) (H : Hp) (vs : List V) (Q : VK) (E : XK), A.guards = some [] → Room k (A.deeper (envOfC qual scope s.heap.objs.size f cdv)) → sp vs H Q E →
      ∃ t, PSs (cxOf (L2.CX P w) P w K mg base N qual scope f cdv A outer s H E) body t ∧ t { nx := fun _ H' => Q .non H', rt := Q } (L2.start N vs) H) : FnG P w K mg base (k + 1) f fd ps sp := by
  obtain ⟨oc, od, dV, kV, doc, pm, an, cdv, ct, osl, rfl, lk, hcd, _, _⟩ := F.ex
  refine ⟨ln, fun A outer s H args us vs Q E gd room at0 bd rel want => ?_⟩
  have inH : K.In s.heap := at0.mod.kin.keeps fun b o e => (at0.bs b o e).1
  have nol : s.heap.NoLimit := at0.mod.nolimit.keeps fun b o e => (at0.bs b o e).1
  refine codeAny_call_function room.depth (inH _ _ lk) rfl S.co S.gen rfl (PySem.W.codeRec_of inH hcd) (bd _ _ _ _ (wpAny_newFunctionEnv_cells S.kind (fun ⟨n, v⟩ hy => ?_) fun env he s1 x => ?_))
  · exact (S.par n (List.of_mem_zip hy).1).imp id fun q => ⟨q, PySem.W.cellsFrom_some _ _ _ (.inl q)⟩
  · subst he
    refine ⟨nol.keeps x.toInCall.keep, codeAny_func ?_⟩
    obtain ⟨t, ht, tq⟩ := hb cdv A outer s H vs Q E gd (room.deeper _) want
    have J := inv_start (CX := L2.CX P w) (E := E) S room.hd at0 (ln _ _ _ _ want) rel x
    refine wpAny_mono (ht.run [] s1 (L2.start N vs) H _ J tq) (fun fl s2 z => ?_) fun e s2 z => z
    cases fl with
    | next =>
      obtain ⟨_, H2, J2, q2⟩ := z
      exact ⟨.non, H2, J2.os, J2.bare, J2.base, J2.hok, rfl, q2⟩
    | ret u =>
      obtain ⟨v, _, H2, J2, r2, q2⟩ := z
      exact ⟨v, H2, J2.os, J2.bare, J2.base, J2.hok, r2, q2⟩
    | brk =>
      obtain ⟨_, _, _, no⟩ := z
      exact no.elim
    | cont =>
      obtain ⟨_, _, _, no⟩ := z
      exact no.elim
/-- what stands behind a call, back in the caller's body -/
theorem runG {X : Cx} {k : Nat} {f : Addr} {fd : FuncData} {ps : List Str} {sp : Sp} {E : L2.St → XK} {pins : List (Addr × Obj)} {σ : L2.St} {H : Hp} {s : Shared} {Q : VK} {args : Args} {us : List Value} {vs : List V} (F : FnG X.prog X.w X.K X.mg X.base k f fd ps sp)
    (gd : X.A.guards = some []) (hr : Room k X.A) (bd : BindsTo s fd args (ps.zip us)) (hx : PassesAt (L2.CX X.prog X.w) X σ (E σ)) (I : Inv X pins σ H s) (rel : Vals vs us) (want : sp vs H Q (E σ)) :
    codeAny (model X.prog X.w) X.A (.call (.ref f) args) (fun r s' => match r with
      | .ok (.ret u) => EP X pins σ Q u s'
      | .ok _ => False
      | .error e => X.xe e s') s := by
  refine codeAny_mono (F.run X.A X.stack s H args us vs Q (E σ) gd hr I.env0 bd rel want) fun r s2 z => ?_
  match r, z with
  | .error e, z => exact hx pins H s e s2 I z
  | .ok (.ret u), z => exact I.after z
  | .ok .next, z => exact z.elim
  | .ok .brk, z => exact z.elim
  | .ok .cont, z => exact z.elim
/-- how the written operands make the parameters: n by position, the keywords ks, the defaults dvs; ix tells of each parameter which one it is -/
def sel {α : Type} (ix : List Nat) (l : List α) : List α := ix.filterMap fun i => l[i]?
theorem vals_sel {vs : List V} {us : List Value} (h : Vals vs us) : ∀ ix : List Nat, Vals (sel ix vs) (sel ix us)
  | [] => .nil
  | i :: ix => by
    have t := vals_sel h ix
    unfold sel at t ⊢
    rw [List.filterMap_cons, List.filterMap_cons]
    cases e : vs[i]? with
    | none =>
      have : us[i]? = none := by rw [List.getElem?_eq_none_iff] at e ⊢; rw [← h.length]; exact e
      rw [this]; exact t
    | some v =>
      obtain ⟨u, hu, r⟩ := h.get e
      rw [hu]; exact .cons r t
def BndG (K : PySem.W.Frag) (fd : FuncData) (ps : List Str) (n : Nat) (ks : List Str) (ix : List Nat) (dvs : List V) : Prop := ∃ its : List Value, Vals dvs its ∧
  ∀ (s : Shared) (us ws : List Value), K.In s.heap → us.length = n → ws.length = ks.length → BindsTo s fd ⟨us, ks.zip ws⟩ (ps.zip (sel ix (us ++ ws ++ its)))
/-- a def of the text that does what f says -/
structure FnV (P : Program) (w : World) (K : PySem.W.Frag) (mg : Str → Option Value) (base : Heap) (k : Nat) (f : Addr) (fd : FuncData) (ps : List Str) (p : PFn) : Prop where
  mono : FMono p
  len : ∀ args Q W, p args Q W → args.length = ps.length
  ok : FnG P w K mg base k f fd ps (spV K ps.length p)
theorem startV_get {n : Nat} {args : List SV} {i : Nat} {sv : SV} (h : (startV n args)[i]? = some (some sv)) : args[i]? = some sv := by
  unfold startV at h
  by_cases hi : i < args.length
  · rw [List.getElem?_append_left (by rw [List.length_map]; exact hi), List.getElem?_map] at h
    cases e : args[i]? with
    | none => rw [e] at h; cases h
    | some x => rw [e] at h; cases h; rfl
  · rw [List.getElem?_append_right (by rw [List.length_map]; omega), List.getElem?_replicate] at h
    split at h <;> cases h
theorem start_get {N : List Str} {vs : List V} {i : Nat} {v : V} (h : vs[i]? = some v) : (L2.start N vs)[i]? = some (some v) := by
  unfold L2.start
  have hi := (List.getElem?_eq_some_iff.mp h).1
  rw [List.getElem?_append_left (by rw [List.length_map]; exact hi), List.getElem?_map, h]
  rfl
theorem start_inv {N : List Str} {vs : List V} {i : Nat} {v : V} (h : (L2.start N vs)[i]? = some (some v)) : vs[i]? = some v := by
  unfold L2.start at h
  by_cases hi : i < vs.length
  · rw [List.getElem?_append_left (by rw [List.length_map]; exact hi), List.getElem?_map] at h
    cases e : vs[i]? with
    | none => rw [e] at h; cases h
    | some x => rw [e] at h; cases h; rfl
  · rw [List.getElem?_append_right (by rw [List.length_map]; omega), List.getElem?_replicate] at h
    split at h <;> cases h
theorem StR.start {K : PySem.W.Frag} {O : Own} {H : Hp} {args : List SV} {vs : List V} {N : List Str} (h : ArgsR K O H args vs) : StR ⟨H, O, musOf args vs⟩ K [] (L2.start N vs) H (startV N.length args) O := by
  have hM : ∀ {a : Addr}, Gh.M ⟨H, O, musOf args vs⟩ a → ∃ i ds, args[i]? = some (SV.mu ds) ∧ vs[i]? = some (V.ref a) := fun {a} ⟨i, e⟩ => by
    have e' : musOf args vs i = some a := e
    unfold musOf at e'
    split at e'
    · rename_i ds b h1 h2
      cases e'
      exact ⟨i, ds, h1, h2⟩
    · cases e'
  have mus_of : ∀ {i : Nat} {ds : List D} {a : Addr}, args[i]? = some (SV.mu ds) → vs[i]? = some (V.ref a) → musOf args vs i = some a := fun {i ds a} h1 h2 => by
    unfold musOf
    rw [h1, h2]
  have mroot : ∀ {a : Addr}, Gh.M ⟨H, O, musOf args vs⟩ a → O a := fun {a} hm => by
    obtain ⟨i, ds, h1, h2⟩ := hM hm
    obtain ⟨b, xs, e, _, h3, _⟩ := h.at_ i _ _ h1 h2
    cases e
    exact h3
  have val : ∀ {i : Nat} {sv : SV}, args[i]? = some sv → ∃ v, vs[i]? = some v := fun {i sv} e => by
    have hi := (List.getElem?_eq_some_iff.mp e).1
    exact ⟨_, List.getElem?_eq_getElem (by rw [h.len]; exact hi)⟩
  refine ⟨?_, fun i sv e => ?_, fun i j sv tv a hij ei ej oi oj si sj => ?_, fun d v hp => (nomatch hp), fun a xs hp => (nomatch hp), fun a ha => ha, fun a ha => mroot ha, fun a o e _ => e, h.alloc, fun i ds e => ?_, h.alloc⟩
  · unfold L2.start startV
    simp only [List.length_append, List.length_map, List.length_replicate, h.len]
  · have e' := startV_get e
    obtain ⟨v, hv⟩ := val e'
    refine ⟨v, start_get hv, ?_⟩
    have r := h.at_ i sv v e' hv
    cases sv with
    | sh d => exact r
    | mu ds =>
      obtain ⟨a, xs, rfl, h1, h2, h3⟩ := r
      exact ⟨a, xs, rfl, h1, h2, ⟨i, mus_of e' hv⟩, h3⟩
    | ow ds => cases r
    | dc a kvs => cases r
    | bo ds =>
      obtain ⟨a, xs, rfl, h1, h3⟩ := r
      refine ⟨a, xs, rfl, ?_, h3⟩
      rcases h1 with ⟨h1, hn⟩ | h1
      · refine .inl ⟨h1, fun z => ?_⟩
        rcases z with z | ⟨j, z⟩
        · have z' : H a = none := z
          rcases h1 with h1 | ⟨o, h1⟩
          · rw [h1] at z'; cases z'
          · rw [h1] at z'; cases z'
        · exact hn j z
      · exact .inr h1
  · have ei' := startV_get ei
    have ej' := startV_get ej
    have si' := start_inv si
    have sj' := start_inv sj
    have mu_of : ∀ {i : Nat} {sv : SV}, args[i]? = some sv → sv.isOwn = true → vs[i]? = some (V.ref a) → ∃ ds, sv = .mu ds := fun {i sv} e o hv => by
      cases sv with
      | mu ds => exact ⟨ds, rfl⟩
      | ow ds => have r := h.at_ i _ _ e hv; cases r
      | sh d => cases o
      | bo ds => cases o
      | dc a kvs => cases o
    obtain ⟨d1, rfl⟩ := mu_of ei' oi si'
    obtain ⟨d2, rfl⟩ := mu_of ej' oj sj'
    exact hij (h.inj i j a (mus_of ei' si') (mus_of ej' sj'))
  · have e' := startV_get e
    obtain ⟨v, hv⟩ := val e'
    obtain ⟨a, xs, rfl, _⟩ := h.at_ i _ v e' hv
    exact ⟨a, mus_of e' hv, start_get hv⟩
section
variable {P : Program} {w : World} {K : PySem.W.Frag} {mg : Str → Option Value} {base : Heap}
theorem post_of {G : Gh} {hs : Hd} {σ : L2.St} {H' : Hp} {ρ : Env} {O' : Own} (st : StR G K hs σ H' ρ O') : Post K G.O0 G.H0 G.mus ρ O' H' := by
  refine ⟨st.outer, fun a o e n => st.keep a o e fun ⟨i, z⟩ => n i z, st.alloc, fun i a ds e e2 => ?_⟩
  have e3 := slotOf_some e2
  obtain ⟨b, h1, h2⟩ := st.mus i ds e3
  rw [e] at h1
  cases h1
  obtain ⟨v, h3, c, xs, rfl, h4, _, _, h5⟩ := st.slot i _ e3
  rw [h2] at h3
  cases h3
  exact ⟨xs, h4, h5⟩
theorem ret_of {G : Gh} {σ : L2.St} {H' : Hp} {ρ : Env} {O' : Own} {sv : SV} {v : V} (r : ResR G K hs σ ρ O' H' sv v) : RetR K G.H0 O' H' sv v := by
  cases sv with
  | sh d => exact r
  | ow ds =>
    obtain ⟨a, xs, e, h1, h2, h3, h4, _, _⟩ := r
    exact ⟨a, xs, e, h1, h2, h3, h4⟩
  | mu ds => cases r
  | bo ds => cases r
  | dc a kvs => exact r
/-- THE RULE for a def -/
theorem fnv_mk {x qual : Str} {params : Arguments} {body : List Stmt} {scope : Scope} {dvs : List V} {kws : List (Str × V)} {f : Addr} {fd : FuncData} {N ps : List Str} {k : Nat} {p : PSv} (F : FunD K x qual params body scope dvs kws f fd) (S : FnScope N ps scope) (hm : SMono p)
    (hbody : ∀ (cdv : Value) (A : Around) (outer : List PySem.Env) (s : Shared) (H : Hp) (E : XK) (G : Gh), A.guards = some [] → Room k (A.deeper (envOfC qual scope s.heap.objs.size f cdv)) →
      VSs (cxOf (L2.CX P w) P w K mg base N qual scope f cdv A outer s H E) G body p) : FnV P w K mg base (k + 1) f fd ps (fnRun ps.length N.length p) := by
  refine ⟨fnRun_mono hm, fun args Q W h => h.1, fnG_of F S (fun vs H Q E h => h.1) (fun cdv A outer s H vs Q E gd hr h => ?_)⟩
  obtain ⟨hl, O, args, ha, hlen, z⟩ := h
  have B := hbody cdv A outer s H E ⟨H, O, musOf args vs⟩ gd hr
  let W : Hd → WxV := fun _ c y out => ∀ d H' O', Post K O H (musOf args vs) out O' H' → PayR K O' H' y d → E (clsV K c) d H'
  have tk : Tk (cxOf (L2.CX P w) P w K mg base N qual scope f cdv A outer s H E) ⟨H, O, musOf args vs⟩ W :=
    ⟨(takes_of rfl rfl rfl rfl).imp fun c d σ H' ⟨hs, ρ, O', x, y, ec, st, py, hw⟩ => ec ▸ hw d H' O' (post_of st) py, passes_of rfl, fun _ _ _ _ _ _ h => h⟩
  refine ⟨_, B.run W tk, [], startV N.length args, O, StR.start ha, B.mono _ { nx := fun r => ∀ v H' O', Post K O H (musOf args vs) r O' H' → RetR K H O' H' (.sh .non) v → Q v H', rt := fun sv r => ∀ v H' O', Post K O H (musOf args vs) r O' H' → RetR K H O' H' sv v → Q v H', ex := fun c y out => ∀ d H' O', Post K O H (musOf args vs) out O' H' → PayR K O' H' y d → E (clsV K c) d H' } _
    ⟨fun r z σ' H' O' st => ?_, fun sv r z v σ' H' O' st rv => ?_, fun _ z => (show False from z).elim, fun _ z => (show False from z).elim, fun c y r z => z⟩ z⟩
  · exact z .non H' O' (post_of st) (show Rep K O' H' .non .non from rep_non.mpr rfl)
  · exact z v H' O' (post_of st) (ret_of rv)
end
end Vx

namespace Vx
open PySem PySem.Spec PyProof.Rows L2

/-! ### calls of defs -/
def argB : Option SV → Option SV
  | some (.sh d) => some (.sh d)
  | some (.ow ds) => some (.bo ds)
  | some (.mu ds) => some (.bo ds)
  | some (.bo ds) => some (.bo ds)
  | _ => none
def argM : Option SV → Option SV
  | some (.ow ds) => some (.mu ds)
  | some (.mu ds) => some (.mu ds)
  | _ => none
def AV.arg (ρ : Env) : AV → Option SV
  | .v d => some (.sh d)
  | .b i => argB (slotOf ρ i)
  | .m i => argM (slotOf ρ i)
def argAll (ρ : Env) : List AV → Option (List SV)
  | [] => some []
  | a :: as => match a.arg ρ, argAll ρ as with
    | some d, some ds => some (d :: ds)
    | _, _ => none
def AV.mi : AV → Option Nat
  | .m i => some i
  | _ => none
def AV.bi : AV → Option Nat
  | .b i => some i
  | _ => none
def okArgs (as : List AV) : Bool := decide ((as.filterMap AV.mi).Nodup) && (as.filterMap AV.bi).all fun i => !(as.filterMap AV.mi).contains i
/-- what a call has made of the lists that were lent -/
def backL (out : Env) : Nat → List AV → Env → Option Env
  | _, [], ρ => some ρ
  | k, .m i :: as, ρ => match slotOf out k, slotOf ρ i with
    | some (.mu ds), some sv => backL out (k + 1) as (ρ.set i (some (sv.with ds)))
    | _, _ => none
  | k, .v _ :: as, ρ => backL out (k + 1) as ρ
  | k, .b _ :: as, ρ => backL out (k + 1) as ρ
def backK (out : Env) (as : List AV) (ρ : Env) (k : Env → Prop) : Prop := match backL out 0 as ρ with
  | some r => k r
  | none => False
theorem backK_mono {out : Env} {as : List AV} {ρ : Env} {k k' : Env → Prop} (hk : ∀ r, k r → k' r) (h : backK out as ρ k) : backK out as ρ k' := by
  unfold backK at h ⊢
  split at h
  · exact hk _ h
  · exact h.elim
def vCall (f : PFn) (ps : List OpP) : PEv := fun ρ Q W => vOps ps ρ (fun as ρ1 => okArgs as = true ∧ match argAll ρ1 as with
  | some args => f args (fun sv out => backK out as ρ1 fun r => Q sv r) (fun c y out => backK out as ρ1 fun r => W c y r)
  | none => False) W
theorem vCall_mono {f : PFn} {ps : List OpP} (hf : FMono f) (hp : LMono ps) : EMono (vCall f ps) := fun ρ Q Q' W W' hQ hW z => hp ρ _ _ _ _ (fun as r z => by
  refine ⟨z.1, ?_⟩
  have z2 := z.2
  split at z2
  · exact hf _ _ _ _ _ (fun sv out z => backK_mono (fun r z => hQ _ _ z) z) (fun c y out z => backK_mono (fun r z => hW _ _ _ z) z) z2
  · exact z2.elim) hW z

/-- where the lists went -/
theorem backL_spec {out : Env} : ∀ {as : List AV} {k : Nat} {ρ ρ2 : Env}, backL out k as ρ = some ρ2 → (as.filterMap AV.mi).Nodup →
    ρ2.length = ρ.length ∧ (∀ j, j ∉ as.filterMap AV.mi → ρ2[j]? = ρ[j]?) ∧
    ∀ q j, as[q]? = some (.m j) → ∃ ds sv, slotOf out (k + q) = some (.mu ds) ∧ ρ[j]? = some (some sv) ∧ ρ2[j]? = some (some (sv.with ds))
  | [], k, ρ, ρ2, h, _ => by
    cases h
    exact ⟨rfl, fun _ _ => rfl, fun q j e => by simp at e⟩
  | .v d :: as, k, ρ, ρ2, h, hn => by
    obtain ⟨h1, h2, h3⟩ := backL_spec (as := as) (k := k + 1) h hn
    refine ⟨h1, h2, fun q j e => ?_⟩
    cases q with
    | zero => cases e
    | succ q =>
      obtain ⟨ds, sv, e1, e2, e3⟩ := h3 q j (by simpa using e)
      exact ⟨ds, sv, by rw [show k + (q + 1) = k + 1 + q by omega]; exact e1, e2, e3⟩
  | .b i :: as, k, ρ, ρ2, h, hn => by
    obtain ⟨h1, h2, h3⟩ := backL_spec (as := as) (k := k + 1) h hn
    refine ⟨h1, h2, fun q j e => ?_⟩
    cases q with
    | zero => cases e
    | succ q =>
      obtain ⟨ds, sv, e1, e2, e3⟩ := h3 q j (by simpa using e)
      exact ⟨ds, sv, by rw [show k + (q + 1) = k + 1 + q by omega]; exact e1, e2, e3⟩
  | .m i :: as, k, ρ, ρ2, h, hn => by
    have h' : (match slotOf out k, slotOf ρ i with
      | some (.mu ds), some sv => backL out (k + 1) as (ρ.set i (some (sv.with ds)))
      | _, _ => none) = some ρ2 := h
    have hn' : (i :: as.filterMap AV.mi).Nodup := hn
    have hi : i ∉ as.filterMap AV.mi := (List.nodup_cons.mp hn').1
    split at h'
    · rename_i ds sv e1 e2
      have e2' := slotOf_some e2
      have hl := (List.getElem?_eq_some_iff.mp e2').1
      obtain ⟨h1, h2, h3⟩ := backL_spec h' (List.nodup_cons.mp hn').2
      refine ⟨by rw [h1, List.length_set], fun j hj => ?_, fun q j e => ?_⟩
      · have hj' : j ∉ i :: as.filterMap AV.mi := hj
        rw [List.mem_cons, not_or] at hj'
        rw [h2 j hj'.2, List.getElem?_set_ne (Ne.symm hj'.1)]
      · cases q with
        | zero =>
          cases e
          refine ⟨ds, sv, e1, e2', ?_⟩
          rw [h2 i hi, List.getElem?_set_self hl]
        | succ q =>
          have ej : as[q]? = some (.m j) := by simpa using e
          obtain ⟨ds', sv', f1, f2, f3⟩ := h3 q j ej
          have hji : j ≠ i := fun z => hi (by rw [← z]; exact List.mem_filterMap.mpr ⟨.m j, List.mem_of_getElem? ej, rfl⟩)
          rw [List.getElem?_set_ne (Ne.symm hji)] at f2
          exact ⟨ds', sv', by rw [show k + (q + 1) = k + 1 + q by omega]; exact f1, f2, f3⟩
    · cases h'
theorem argAll_len {ρ : Env} : ∀ {as : List AV} {args : List SV}, argAll ρ as = some args → args.length = as.length
  | [], args, h => by cases h; rfl
  | a :: as, args, h => by
    unfold argAll at h
    split at h
    · cases h
      rename_i h2
      rw [List.length_cons, List.length_cons, argAll_len h2]
    · cases h
theorem argAll_at {ρ : Env} : ∀ {as : List AV} {args : List SV}, argAll ρ as = some args → ∀ {i : Nat} {sv : SV}, args[i]? = some sv → ∃ a, as[i]? = some a ∧ a.arg ρ = some sv
  | [], args, h, i, sv, e => by cases h; simp at e
  | a :: as, args, h, i, sv, e => by
    unfold argAll at h
    split at h
    · rename_i d ds h1 h2
      cases h
      cases i with
      | zero => cases e; exact ⟨a, rfl, h1⟩
      | succ i =>
        obtain ⟨a', e1, e2⟩ := argAll_at h2 (i := i) (sv := sv) (by simpa using e)
        exact ⟨a', by simpa using e1, e2⟩
    · cases h
theorem avsR_at {σ : L2.St} {K : PySem.W.Frag} {O : Own} {H : Hp} : ∀ {as : List AV} {vs : List V}, AvsR σ K O H as vs → vs.length = as.length ∧ ∀ {i : Nat} {a : AV} {v : V}, as[i]? = some a → vs[i]? = some v → AvR σ K O H a v
  | [], vs, h => by
    have h' : vs = [] := h
    subst h'
    exact ⟨rfl, fun e => by simp at e⟩
  | a :: as, vs, h => by
    obtain ⟨v, r, rfl, h1, h2⟩ := h
    obtain ⟨hl, h3⟩ := avsR_at h2
    refine ⟨by rw [List.length_cons, List.length_cons, hl], fun {i a' v'} e1 e2 => ?_⟩
    cases i with
    | zero => cases e1; cases e2; exact h1
    | succ i => exact h3 (i := i) (by simpa using e1) (by simpa using e2)
section
variable {K : PySem.W.Frag} {G : Gh} {hs : Hd} {σ : L2.St} {H : Hp} {ρ : Env} {O : Own}
/-- a lent list: the slot is own -/
theorem arg_mu {a : AV} {ds : List D} (h : a.arg ρ = some (.mu ds)) : ∃ i sv, a = .m i ∧ ρ[i]? = some (some sv) ∧ sv.isOwn = true ∧ sv.items = ds := by
  cases a with
  | v d => cases h
  | b i =>
    have h' : argB (slotOf ρ i) = some (.mu ds) := h
    cases e : slotOf ρ i with
    | none => rw [e] at h'; cases h'
    | some sv => rw [e] at h'; cases sv <;> cases h'
  | m i =>
    have h' : argM (slotOf ρ i) = some (.mu ds) := h
    cases e : slotOf ρ i with
    | none => rw [e] at h'; cases h'
    | some sv =>
      rw [e] at h'
      cases sv with
      | ow cs => cases h'; exact ⟨i, _, rfl, slotOf_some e, rfl, rfl⟩
      | mu cs => cases h'; exact ⟨i, _, rfl, slotOf_some e, rfl, rfl⟩
      | sh d => cases h'
      | bo d => cases h'
      | dc a kvs => cases h'
theorem arg_bo {a : AV} {ds : List D} (h : a.arg ρ = some (.bo ds)) : ∃ i sv, a = .b i ∧ ρ[i]? = some (some sv) ∧ sv.items = ds ∧ (∀ d, sv ≠ .sh d) ∧ ∀ b kvs, sv ≠ .dc b kvs := by
  cases a with
  | v d => cases h
  | m i =>
    have h' : argM (slotOf ρ i) = some (.bo ds) := h
    cases e : slotOf ρ i with
    | none => rw [e] at h'; cases h'
    | some sv => rw [e] at h'; cases sv <;> cases h'
  | b i =>
    have h' : argB (slotOf ρ i) = some (.bo ds) := h
    cases e : slotOf ρ i with
    | none => rw [e] at h'; cases h'
    | some sv =>
      rw [e] at h'
      cases sv with
      | sh d => cases h'
      | ow cs => cases h'; exact ⟨i, _, rfl, slotOf_some e, rfl, (fun d z => nomatch z), (fun b k z => nomatch z)⟩
      | mu cs => cases h'; exact ⟨i, _, rfl, slotOf_some e, rfl, (fun d z => nomatch z), (fun b k z => nomatch z)⟩
      | bo cs => cases h'; exact ⟨i, _, rfl, slotOf_some e, rfl, (fun d z => nomatch z), (fun b k z => nomatch z)⟩
      | dc a kvs => cases h'
theorem arg_sh {a : AV} {d : D} (h : a.arg ρ = some (.sh d)) : a = .v d ∨ ∃ i, a = .b i ∧ ρ[i]? = some (some (.sh d)) := by
  cases a with
  | v d => cases h; exact .inl rfl
  | m i =>
    have h' : argM (slotOf ρ i) = some (.sh d) := h
    cases e : slotOf ρ i with
    | none => rw [e] at h'; cases h'
    | some sv => rw [e] at h'; cases sv <;> cases h'
  | b i =>
    have h' : argB (slotOf ρ i) = some (.sh d) := h
    cases e : slotOf ρ i with
    | none => rw [e] at h'; cases h'
    | some sv =>
      rw [e] at h'
      cases sv with
      | sh d => cases h'; exact .inr ⟨i, rfl, slotOf_some e⟩
      | ow cs => cases h'
      | mu cs => cases h'
      | bo cs => cases h'
      | dc a kvs => cases h'
theorem arg_dc {a : AV} {b : Addr} {kvs : List (List L2.Key × D)} (h : a.arg ρ = some (.dc b kvs)) : False := by
  cases a with
  | v d => cases h
  | m i =>
    have h' : argM (slotOf ρ i) = some (.dc b kvs) := h
    cases e : slotOf ρ i with
    | none => rw [e] at h'; cases h'
    | some sv => rw [e] at h'; cases sv <;> cases h'
  | b i =>
    have h' : argB (slotOf ρ i) = some (.dc b kvs) := h
    cases e : slotOf ρ i with
    | none => rw [e] at h'; cases h'
    | some sv => rw [e] at h'; cases sv <;> cases h'
theorem arg_ow {a : AV} {ds : List D} (h : a.arg ρ = some (.ow ds)) : False := by
  cases a with
  | v d => cases h
  | m i =>
    have h' : argM (slotOf ρ i) = some (.ow ds) := h
    cases e : slotOf ρ i with
    | none => rw [e] at h'; cases h'
    | some sv => rw [e] at h'; cases sv <;> cases h'
  | b i =>
    have h' : argB (slotOf ρ i) = some (.ow ds) := h
    cases e : slotOf ρ i with
    | none => rw [e] at h'; cases h'
    | some sv => rw [e] at h'; cases sv <;> cases h'
theorem musOf_some {args : List SV} {vs : List V} {i : Nat} {a : Addr} (h : musOf args vs i = some a) : ∃ ds, args[i]? = some (SV.mu ds) ∧ vs[i]? = some (V.ref a) := by
  unfold musOf at h
  split at h
  · rename_i ds b h1 h2
    cases h
    exact ⟨ds, h1, h2⟩
  · cases h
theorem StR.args (st : StR G K hs σ H ρ O) {as : List AV} {vs : List V} {args : List SV} (r : AvsR σ K O H as vs) (e : argAll ρ as = some args) (ok : okArgs as = true) : ArgsR K O H args vs ∧
    ∀ i a, musOf args vs i = some a → ∃ j sv, as[i]? = some (.m j) ∧ ρ[j]? = some (some sv) ∧ sv.isOwn = true ∧ σ[j]? = some (some (V.ref a)) := by
  obtain ⟨hl, hat⟩ := avsR_at r
  have hlen := argAll_len e
  unfold okArgs at ok
  rw [Bool.and_eq_true] at ok
  have hnd : (as.filterMap AV.mi).Nodup := of_decide_eq_true ok.1
  have hbm : ∀ i, i ∈ as.filterMap AV.bi → i ∉ as.filterMap AV.mi := fun i hi => by
    have := List.all_eq_true.mp ok.2 i hi
    simpa using this
  have mus : ∀ i a, musOf args vs i = some a → ∃ j sv, as[i]? = some (.m j) ∧ ρ[j]? = some (some sv) ∧ sv.isOwn = true ∧ σ[j]? = some (some (V.ref a)) := fun i a h => by
    obtain ⟨ds, h1, h2⟩ := musOf_some h
    obtain ⟨av, e1, e2⟩ := argAll_at e h1
    obtain ⟨j, sv, rfl, e3, e4, e5⟩ := arg_mu e2
    exact ⟨j, sv, e1, e3, e4, hat e1 h2⟩
  refine ⟨⟨by rw [hl, hlen], fun i sv v h1 h2 => ?_, fun i j a h1 h2 => ?_, st.alloc⟩, mus⟩
  · obtain ⟨av, e1, e2⟩ := argAll_at e h1
    have ra := hat e1 h2
    cases sv with
    | sh d =>
      rcases arg_sh e2 with rfl | ⟨k, rfl, es⟩
      · exact ra
      · obtain ⟨u, f1, f2⟩ := st.slot k _ es
        have ra' : σ[k]? = some (some v) := ra
        rw [f1] at ra'
        cases ra'
        exact f2
    | mu ds =>
      obtain ⟨j, sv, rfl, e3, e4, e5⟩ := arg_mu e2
      obtain ⟨a, xs, f1, f2, f3, f4⟩ := own_at st e3 e4
      have ra' : σ[j]? = some (some v) := ra
      rw [f1] at ra'
      cases ra'
      rw [← e5]
      exact ⟨a, xs, rfl, f2, f3, f4⟩
    | bo ds =>
      obtain ⟨j, sv, rfl, e3, e4, e5⟩ := arg_bo e2
      obtain ⟨u, f1, f2⟩ := st.slot j _ e3
      have ra' : σ[j]? = some (some v) := ra
      rw [f1] at ra'
      cases ra'
      have hqm : j ∉ as.filterMap AV.mi := hbm j (List.mem_filterMap.mpr ⟨_, List.mem_of_getElem? e1, rfl⟩)
      have apart : ∀ a, sv.isOwn = true → v = .ref a → ∀ q, musOf args vs q ≠ some a := fun a ho ev q hq => by
        obtain ⟨p, sp, g1, g2, g3, g4⟩ := mus q a hq
        have hpm : p ∈ as.filterMap AV.mi := List.mem_filterMap.mpr ⟨_, List.mem_of_getElem? g1, rfl⟩
        have hjp : j ≠ p := fun z => hqm (z ▸ hpm)
        rw [ev] at f1
        exact st.inj j p sv sp a hjp e3 g2 ho g3 f1 g4
      rw [← e4]
      cases sv with
      | sh d => exact absurd rfl (e5.1 d)
      | dc b kvs => exact absurd rfl (e5.2 b kvs)
      | ow cs => obtain ⟨a, xs, rfl, g1, _, _, g2⟩ := f2; exact ⟨a, xs, rfl, .inl ⟨.inl g1, apart a rfl rfl⟩, g2⟩
      | mu cs => obtain ⟨a, xs, rfl, g1, _, _, g2⟩ := f2; exact ⟨a, xs, rfl, .inl ⟨.inl g1, apart a rfl rfl⟩, g2⟩
      | bo cs =>
        obtain ⟨a, xs, rfl, g1, g2⟩ := f2
        refine ⟨a, xs, rfl, ?_, g2⟩
        rcases g1 with ⟨g1, n⟩ | g1
        · refine .inl ⟨g1, fun q hq => ?_⟩
          obtain ⟨p, sp, h1, h2, h3, h4⟩ := mus q a hq
          obtain ⟨u2, h5, h6⟩ := st.slot p _ h2
          rw [h4] at h5
          cases h5
          cases sp with
          | sh d => cases h3
          | bo d => cases h3
          | dc b kvs => cases h3
          | ow cs => obtain ⟨b, ys, z, _, _, h7, _⟩ := h6; cases z; exact n (.inl h7)
          | mu cs => obtain ⟨b, ys, z, _, _, h7, _⟩ := h6; cases z; exact n (.inr h7)
        · exact .inr g1
    | ow ds => exact (arg_ow e2).elim
    | dc b kvs => exact (arg_dc e2).elim
  · obtain ⟨p, sp, e1, e2, e3, e4⟩ := mus i a h1
    obtain ⟨q, sq, f1, f2, f3, f4⟩ := mus j a h2
    by_cases hij : i = j
    · exact hij
    · have hpq : p = q := Classical.byContradiction fun z => st.inj p q sp sq a z e2 f2 e3 f3 e4 f4
      subst hpq
      -- two places with one index
      have key : ∀ (l : List AV) (i j : Nat), (l.filterMap AV.mi).Nodup → l[i]? = some (AV.m p) → l[j]? = some (AV.m p) → i = j := by
        intro l
        induction l with
        | nil => intro i j _ h; simp at h
        | cons b l ih =>
          intro i j hn hi hj
          have hmem : ∀ {k : Nat}, l[k]? = some (AV.m p) → p ∈ l.filterMap AV.mi := fun hk => List.mem_filterMap.mpr ⟨_, List.mem_of_getElem? hk, rfl⟩
          cases i with
          | zero =>
            cases j with
            | zero => rfl
            | succ j =>
              cases hi
              have hn' : (p :: l.filterMap AV.mi).Nodup := hn
              exact absurd (hmem (k := j) (by simpa using hj)) (List.nodup_cons.mp hn').1
          | succ i =>
            cases j with
            | zero =>
              cases hj
              have hn' : (p :: l.filterMap AV.mi).Nodup := hn
              exact absurd (hmem (k := i) (by simpa using hi)) (List.nodup_cons.mp hn').1
            | succ j =>
              have hn' : (l.filterMap AV.mi).Nodup := by
                cases b with
                | m q => exact (List.nodup_cons.mp (show (q :: l.filterMap AV.mi).Nodup from hn)).2
                | v d => exact hn
                | b q => exact hn
              rw [ih i j hn' (by simpa using hi) (by simpa using hj)]
      exact key as i j hnd e1 f1
/-- the state behind a call -/
theorem StR.call (st : StR G K hs σ H ρ O) {as : List AV} {vs : List V} {args : List SV} (r : AvsR σ K O H as vs) (e : argAll ρ as = some args) (ok : okArgs as = true)
    {out : Env} {O' : Own} {H' : Hp} (P : Post K O H (musOf args vs) out O' H') {ρ2 : Env} (eb : backL out 0 as ρ = some ρ2) {O2 : Own} (s1 : ∀ a, O a → O2 a) (s2 : ∀ a, O2 a → O' a) (s3 : ∀ a, O2 a → O a ∨ H a = none) :
    StR G K hs σ H' ρ2 O2 ∧ ∀ (j : Nat) (tv : SV), ρ2[j]? = some (some tv) → tv.isOwn = true → ∃ tv', ρ[j]? = some (some tv') ∧ tv'.isOwn = true := by
  obtain ⟨hA, mus⟩ := st.args r e ok
  obtain ⟨hl, hat⟩ := avsR_at r
  have hlen := argAll_len e
  unfold okArgs at ok
  rw [Bool.and_eq_true] at ok
  have hnd : (as.filterMap AV.mi).Nodup := of_decide_eq_true ok.1
  obtain ⟨b1, b2, b3⟩ := backL_spec eb hnd
  have hMO : ∀ i a, musOf args vs i = some a → O a ∧ G.Wr a := fun i a h => by
    obtain ⟨j, sv, h1, h2, h3, h4⟩ := mus i a h
    obtain ⟨u, h5, h6⟩ := st.slot j _ h2
    rw [h4] at h5
    cases h5
    cases sv with
    | sh d => cases h3
    | bo d => cases h3
    | dc b kvs => cases h3
    | ow cs => obtain ⟨b, ys, z, _, h7, h8, _⟩ := h6; cases z; exact ⟨h7, .inl h8⟩
    | mu cs => obtain ⟨b, ys, z, _, h7, h8, _⟩ := h6; cases z; exact ⟨h7, .inr h8⟩
  have s : Stq G O H O2 H' := ⟨⟨fun a o ea n => P.keep a o ea fun i z => n (hMO i a z).1, s3⟩, fun a o ea n => P.keep a o ea fun i z => n (hMO i a z).2⟩
  have s' : Stp O' H' O2 H' := ⟨fun a o ea _ => ea, fun a h => .inl (s2 a h)⟩
  -- where a lent list stands
  have lent : ∀ {q j : Nat}, as[q]? = some (.m j) → ∃ ds sv a, ρ[j]? = some (some sv) ∧ sv.isOwn = true ∧ ρ2[j]? = some (some (sv.with ds)) ∧ σ[j]? = some (some (V.ref a)) ∧ musOf args vs q = some a ∧ ∃ xs, H' a = some (.lst xs) ∧ RepL K O2 H' ds xs := fun {q j} hq => by
    obtain ⟨ds, sv, e1, e2, e3⟩ := b3 q j hq
    have hq' : q < args.length := by rw [hlen]; exact (List.getElem?_eq_some_iff.mp hq).1
    obtain ⟨av0, ha⟩ : ∃ av0, args[q]? = some av0 := ⟨_, List.getElem?_eq_getElem hq'⟩
    obtain ⟨av, f1, f2⟩ := argAll_at e ha
    rw [hq] at f1
    cases f1
    have f2' : argM (slotOf ρ j) = some av0 := f2
    have esl : slotOf ρ j = some sv := by unfold slotOf; rw [e2]; rfl
    rw [esl] at f2'
    obtain ⟨v, hv⟩ : ∃ v, vs[q]? = some v := ⟨_, List.getElem?_eq_getElem (by rw [hA.len]; exact hq')⟩
    have hv' : σ[j]? = some (some v) := hat hq hv
    have fin : sv.isOwn = true → (∃ cs, args[q]? = some (SV.mu cs)) → ∃ ds sv a, ρ[j]? = some (some sv) ∧ sv.isOwn = true ∧ ρ2[j]? = some (some (sv.with ds)) ∧ σ[j]? = some (some (V.ref a)) ∧ musOf args vs q = some a ∧ ∃ xs, H' a = some (.lst xs) ∧ RepL K O2 H' ds xs := fun ho ⟨cs, hc⟩ => by
      obtain ⟨a, xs, g1, g2, g3, g4⟩ := own_at st e2 ho
      rw [hv'] at g1
      cases g1
      have hm : musOf args vs q = some a := by unfold musOf; rw [hc, hv]
      obtain ⟨ys, k1, k2⟩ := P.outs q a ds hm (by rw [Nat.zero_add] at e1; exact e1)
      exact ⟨ds, sv, a, e2, ho, e3, hv', hm, ys, k1, RepL.stp s' _ _ k2⟩
    cases sv with
    | sh d => cases f2'
    | bo d => cases f2'
    | dc b kvs => cases f2'
    | ow cs => cases f2'; exact fin rfl ⟨cs, ha⟩
    | mu cs => cases f2'; exact fin rfl ⟨cs, ha⟩
  have mem_q : ∀ {j : Nat}, j ∈ as.filterMap AV.mi → ∃ q : Nat, as[q]? = some (AV.m j) := fun {j} hj => by
    obtain ⟨av, h1, h2⟩ := List.mem_filterMap.mp hj
    cases av with
    | v d => cases h2
    | b i => cases h2
    | m i =>
      cases h2
      exact List.mem_iff_getElem?.mp h1
  have own_back : ∀ {j : Nat} {tv : SV}, ρ2[j]? = some (some tv) → tv.isOwn = true → ∃ tv', ρ[j]? = some (some tv') ∧ tv'.isOwn = true := fun {j tv} ej oj => by
    by_cases hj : j ∈ as.filterMap AV.mi
    · obtain ⟨q, hq⟩ := mem_q hj
      obtain ⟨ds, sv, a, h1, h2, _⟩ := lent hq
      exact ⟨sv, h1, h2⟩
    · rw [b2 j hj] at ej
      exact ⟨tv, ej, oj⟩
  refine ⟨?_, fun j tv => own_back⟩
  refine ⟨by rw [b1]; exact st.len, fun j tv ej => ?_, fun i j sv tv a hij ei ej oi oj si sj => ?_, fun d v hp => Rep.stp s.toStp _ _ (st.held d v hp), fun a xs hp => ?_, fun a h => s1 a (st.outer a h), st.mo, fun a o ea n => ?_, fun a h => P.alloc a (s2 a h), fun j ds ej => ?_, st.alloc0⟩
  · by_cases hj : j ∈ as.filterMap AV.mi
    · obtain ⟨q, hq⟩ := mem_q hj
      obtain ⟨ds, sv, a, h1, h2, h3, h4, h5, xs, h6, h7⟩ := lent hq
      rw [ej] at h3
      cases h3
      refine ⟨.ref a, h4, ?_⟩
      obtain ⟨u, g1, g2⟩ := st.slot j _ h1
      rw [h4] at g1
      cases g1
      cases sv with
      | sh d => cases h2
      | bo d => cases h2
      | dc b kvs => cases h2
      | ow cs => obtain ⟨b, ys, z, _, g3, g4, _⟩ := g2; cases z; exact ⟨a, xs, rfl, h6, s1 a g3, g4, h7⟩
      | mu cs => obtain ⟨b, ys, z, _, g3, g4, _⟩ := g2; cases z; exact ⟨a, xs, rfl, h6, s1 a g3, g4, h7⟩
    · rw [b2 j hj] at ej
      obtain ⟨v, e1, q⟩ := st.slot j tv ej
      refine ⟨v, e1, q.stq s (fun ho a xs ev ea => ?_) fun a ys hO ea => ⟨P.keep a _ ea fun i hi => ?_, s1 a hO⟩⟩
      rotate_left
      · obtain ⟨p, sp, h1, h2, h3, h4⟩ := mus i a hi
        obtain ⟨b, xs, g1, g2, _, _⟩ := own_at st h2 h3
        rw [h4] at g1
        cases g1
        rw [ea] at g2
        cases g2
      have hOa : O a := by
        cases tv with
        | sh d => cases ho
        | bo d => cases ho
        | dc b kvs => cases ho
        | ow cs => obtain ⟨b, ys, z, _, g3, _, _⟩ := q; rw [ev] at z; cases z; exact g3
        | mu cs => obtain ⟨b, ys, z, _, g3, _, _⟩ := q; rw [ev] at z; cases z; exact g3
      refine ⟨P.keep a _ ea fun i hi => ?_, s1 a hOa⟩
      obtain ⟨p, sp, h1, h2, h3, h4⟩ := mus i a hi
      have hpj : p ≠ j := fun z => hj (by rw [← z]; exact List.mem_filterMap.mpr ⟨_, List.mem_of_getElem? h1, rfl⟩)
      rw [ev] at e1
      exact st.inj p j sp tv a hpj h2 ej h3 ho h4 e1
  · obtain ⟨sv', e2, o2⟩ := own_back ei oi
    obtain ⟨tv', e3, o3⟩ := own_back ej oj
    exact st.inj i j sv' tv' a hij e2 e3 o2 o3 si sj
  · obtain ⟨h1, h2, h3, h4⟩ := st.pins a xs hp
    refine ⟨P.keep a _ h1 fun i hi => ?_, s1 a h2, h3, fun j tv ej oj => ?_⟩
    · obtain ⟨p, sp, k1, k2, k3, k4⟩ := mus i a hi
      exact h4 p sp k2 k3 k4
    · obtain ⟨tv', e2, o2⟩ := own_back ej oj
      exact h4 j tv' e2 o2
  · have ea' := st.keep a o ea n
    refine P.keep a o ea' fun i hi => ?_
    rcases (hMO i a hi).2 with z | z
    · rw [ea] at z; cases z
    · exact n z
  · by_cases hj : j ∈ as.filterMap AV.mi
    · obtain ⟨q, hq⟩ := mem_q hj
      obtain ⟨ds', sv, a, h1, h2, h3, h4, _⟩ := lent hq
      rw [ej] at h3
      cases sv with
      | sh d => cases h2
      | bo d => cases h2
      | dc b kvs => cases h2
      | ow cs => cases h3
      | mu cs => exact st.mus j cs h1
    · rw [b2 j hj] at ej
      exact st.mus j ds ej
end
section
variable {X : Cx} {G : Gh} {We : Hd → WxV} {e : Expr} {es : List Expr} {ps : List OpP} {f : PFn} {k : Nat} {fa : Addr} {fd : FuncData} {pn : List Str} {x : Str} {p pos : Pos}
abbrev WXof (X : Cx) (G : Gh) (We : Hd → WxV) : WX := fun cls d σ H => ∃ hs ρ O x y, cls = clsV X.K x ∧ StR G X.K hs σ H ρ O ∧ PayR X.K O H y d ∧ We hs x y ρ
theorem call_run {np : Nat} (fm : FMono f) (fl : ∀ args Q W, f args Q W → args.length = np) {hs : Hd} {σ : L2.St} {H1 : Hp} {r : Env} {O1 : Own} {as : List AV} {vs : List V} {Q : VK} (st1 : StR G X.K hs σ H1 r O1) (rv : AvsR σ X.K O1 H1 as vs)
    (z : okArgs as = true ∧ match argAll r as with
      | some args => f args (fun sv out => backK out as r fun r => ∀ v H' O', StR G X.K hs σ H' r O' → ResR G X.K hs σ r O' H' sv v → Q v H') (fun c y out => backK out as r fun r => We hs c y r)
      | none => False) : spV X.K np f vs H1 Q (WE (WXof X G We) σ) := by
  obtain ⟨ok, z⟩ := z
  split at z
  · rename_i args hargs
    obtain ⟨hA, mus⟩ := st1.args rv hargs ok
    refine ⟨by rw [hA.len]; exact fl _ _ _ z, O1, args, hA, fm args _ _ _ _ (fun sv out z v H' O' P rr => ?_) (fun c y out z d H' O' P py => ?_) z⟩
    · unfold backK at z
      split at z
      · rename_i r2 eb
        cases sv with
        | sh d =>
          obtain ⟨st2, _⟩ := st1.call rv hargs ok P eb (O2 := O1) (fun _ h => h) P.more (fun _ h => .inl h)
          exact z v H' O1 st2 (Rep.stp ⟨fun _ _ e _ => e, fun a h => .inl (P.more a h)⟩ _ _ rr)
        | ow ds =>
          obtain ⟨a, xs, rfl, h1, h2, h3, h4⟩ := rr
          obtain ⟨st2, back⟩ := st1.call rv hargs ok P eb (O2 := fun b => O1 b ∨ b = a) (fun _ h => .inl h) (fun b h => h.elim (P.more b) fun e => e ▸ h2) (fun b h => h.elim .inl fun e => .inr (e ▸ h3))
          refine z (.ref a) H' _ st2 ⟨a, xs, rfl, h1, .inr rfl, st1.fresh0 h3, RepL.stp ⟨fun _ _ e _ => e, fun b h => .inl (h.elim (P.more b) fun e => e ▸ h2)⟩ _ _ h4, fun j tv ej oj => ?_, fun ys hy => by rw [(st1.pins a ys hy).1] at h3; cases h3⟩
          obtain ⟨tv', e2, o2⟩ := back j tv ej oj
          exact st1.own_ne h3 j tv' e2 o2
        | mu ds => cases rr
        | bo ds => cases rr
        | dc a kvs =>
          obtain ⟨rfl, h2, h3, ys, h1, h4⟩ := rr
          obtain ⟨st2, back⟩ := st1.call rv hargs ok P eb (O2 := fun b => O1 b ∨ b = a) (fun _ h => .inl h) (fun b h => h.elim (P.more b) fun e => e ▸ h2) (fun b h => h.elim .inl fun e => .inr (e ▸ h3))
          exact z (.ref a) H' _ st2 ⟨rfl, .inr rfl, st1.fresh0 h3, ys, h1, KvR.stp ⟨fun _ _ e _ => e, fun b h => .inl (h.elim (P.more b) fun e => e ▸ h2)⟩ _ _ h4⟩
      · exact z.elim
    · unfold backK at z
      split at z
      · rename_i r2 eb
        obtain ⟨st2, _⟩ := st1.call rv hargs ok P eb (O2 := O1) (fun _ h => h) P.more (fun _ h => .inl h)
        refine ⟨hs, r2, O1, c, y, rfl, st2, ?_, z⟩
        cases y with
        | none => exact py
        | some fx =>
          obtain ⟨fn, dx⟩ := fx
          obtain ⟨a, v, h1, h2, h3⟩ := py
          exact ⟨a, v, h1, h2, Rep.stp ⟨fun _ _ e _ => e, fun a h => .inl (P.more a h)⟩ _ _ h3⟩
      · exact z.elim
  · exact z.elim
theorem wp_ofG {X : Cx} {fa : Addr} {us : List Value} {kw : List (Str × Value)} {Q : Value → Shared → Prop} {s : Shared} (h : codeAny (model X.prog X.w) X.A (.call (.ref fa) ⟨us, kw⟩) (fun r s' => match r with
      | .ok (.ret u) => Q u s'
      | .ok _ => False
      | .error e => X.xe e s') s) : wpAny (model X.prog X.w) X.A (call (.ref fa) us kw) Q X.xe s := by
  refine wpAny_call (codeAny_mono h fun r s2 z => ?_)
  match r, z with
  | .error e, z => exact z
  | .ok (.ret u), z => exact z
  | .ok .next, z => exact z.elim
  | .ok .brk, z => exact z.elim
  | .ok .cont, z => exact z.elim
theorem ve_call (F : FnV X.prog X.w X.K X.mg X.base k fa fd pn f) (gd : X.A.guards = some []) (hr : Room k X.A) (hg : Gl X x) (hm : X.mg x = some (.ref fa)) (hk : PySem.W.keepIn X.K (.ref fa) = true) (hb : Binds X.K fd pn []) (ha : VA X G (e :: es) ps)
    (hdb : (x == ("__debug__" : Str)) = false := by decide) (he : starEach (e :: es) X.env = (false, eval e X.env) :: starEach es X.env := by rfl) (hpl : (backTo pos (starEach es X.env)).any (·.1) = false := by rfl) :
    VE X G (.Call (.Name x p) (e :: es) [] pos) (vCall f ps) := by
  refine ⟨vCall_mono F.mono ha.mono, fun We tk => ⟨fun pins s σ H Q I ⟨hs, ρ, O, st, z⟩ => wpAny_Call_Name_kw (ld_glob I hg hm ?_ hdb)⟩⟩
  refine PySem.W.callWith_K (h₀ := X.base) I.ok.mod.kin hk (thn ((ha.run We tk).run pos pins s σ H (fun vs H1 => spV X.K pn.length f vs H1 Q (WE (WXof X G We) σ)) I ⟨hs, ρ, O, st, ?_⟩) fun us s1 ⟨vs, H1, I1, rel, q⟩ => ⟨I1.kIn, wp_ofG ?_⟩) he hpl
  · exact ha.mono ρ _ _ _ _ (fun as r z vs H1 O1 st1 rv => call_run F.mono F.len st1 rv z) (fun _ _ _ w => w) z
  · have hl : us.length = pn.length := by rw [← rel.length]; exact F.ok.len _ _ _ _ q
    have b := hb s1 us I1.kIn (by rw [List.append_nil]; exact hl)
    rw [List.append_nil] at b
    exact runG (E := WE (WXof X G We)) F.ok gd hr b (passAt tk.tk σ) I1 rel q

/-! ### calls with keywords and defaults -/
def vCallK (f : PFn) (n m : Nat) (ix : List Nat) (df : List D) (ps qs : List OpP) : PEv := fun ρ Q W => vOps ps ρ (fun as ρ1 => as.length = n ∧ vOps qs ρ1 (fun bs ρ2 => bs.length = m ∧ okArgs (sel ix (as ++ bs ++ df.map AV.v)) = true ∧ match argAll ρ2 (sel ix (as ++ bs ++ df.map AV.v)) with
  | some args => f args (fun sv out => backK out (sel ix (as ++ bs ++ df.map AV.v)) ρ2 fun r => Q sv r) (fun c y out => backK out (sel ix (as ++ bs ++ df.map AV.v)) ρ2 fun r => W c y r)
  | none => False) W) W
theorem vCallK_mono {f : PFn} {n m : Nat} {ps qs : List OpP} {ix : List Nat} {df : List D} (hf : FMono f) (hp : LMono ps) (hq : LMono qs) : EMono (vCallK f n m ix df ps qs) := fun ρ Q Q' W W' hQ hW z => hp ρ _ _ _ _ (fun as r z => by
  refine ⟨z.1, hq r _ _ _ _ (fun bs r z => ?_) hW z.2⟩
  refine ⟨z.1, z.2.1, ?_⟩
  have z2 := z.2.2
  split at z2
  · exact hf _ _ _ _ _ (fun sv out z => backK_mono (fun r z => hQ _ _ z) z) (fun c y out z => backK_mono (fun r z => hW _ _ _ z) z) z2
  · exact z2.elim) hW z
theorem avsR_sel {K : PySem.W.Frag} {O : Own} {H : Hp} {σ : L2.St} {as : List AV} {vs : List V} (h : AvsR σ K O H as vs) : ∀ ix : List Nat, AvsR σ K O H (sel ix as) (sel ix vs)
  | [] => rfl
  | i :: ix => by
    have t := avsR_sel h ix
    obtain ⟨hl, hat⟩ := avsR_at h
    unfold sel at t ⊢
    rw [List.filterMap_cons, List.filterMap_cons]
    cases e : as[i]? with
    | none =>
      have : vs[i]? = none := by rw [List.getElem?_eq_none_iff] at e ⊢; rw [hl]; exact e
      rw [this]; exact t
    | some a =>
      have hi : i < vs.length := by rw [hl]; exact (List.getElem?_eq_some_iff.mp e).1
      have hv : vs[i]? = some vs[i] := List.getElem?_eq_getElem hi
      rw [hv]
      exact ⟨_, _, rfl, hat e hv, t⟩
theorem avsR_append {K : PySem.W.Frag} {O : Own} {H : Hp} {σ : L2.St} {bs : List AV} {ws : List V} (k : AvsR σ K O H bs ws) : ∀ {as : List AV} {vs : List V}, AvsR σ K O H as vs → AvsR σ K O H (as ++ bs) (vs ++ ws)
  | [], vs, h => by have h' : vs = [] := h; subst h'; exact k
  | a :: as, vs, h => by
    obtain ⟨v, r, rfl, h1, h2⟩ := h
    exact ⟨v, r ++ ws, rfl, h1, avsR_append k h2⟩
theorem avsR_len {K : PySem.W.Frag} {O : Own} {H : Hp} {σ : L2.St} {as : List AV} {vs : List V} (h : AvsR σ K O H as vs) : vs.length = as.length := (avsR_at h).1
/-- plain constants -/
def dfV : D → V
  | .non => .non
  | .bl b => .bl b
  | .int i => .int i
  | .str x => .str x
  | _ => .non
def dfOk : D → Bool
  | .non => true
  | .bl _ => true
  | .int _ => true
  | .str _ => true
  | _ => false
theorem avsR_df {K : PySem.W.Frag} {O : Own} {H : Hp} {σ : L2.St} : ∀ {df : List D}, df.all dfOk = true → AvsR σ K O H (df.map AV.v) (df.map dfV)
  | [], _ => rfl
  | d :: df, h => by
    rw [List.all_cons, Bool.and_eq_true] at h
    refine ⟨dfV d, df.map dfV, rfl, ?_, avsR_df h.2⟩
    show Rep K O H d (dfV d)
    have h1 := h.1
    cases d with
    | non => exact rep_non.mpr rfl
    | bl b => exact rep_bl.mpr rfl
    | int i => exact rep_int.mpr rfl
    | str x => exact rep_str.mpr rfl
    | tup ds => cases h1
    | lst ds => cases h1
    | ob a => cases h1
    | rc _ _ _ => cases h1
/-- operands that are held while more are read -/
def holdAs : List AV → List V → Hd → Hd
  | a :: as, v :: vs, hs => a.hold v (holdAs as vs hs)
  | _, _, hs => hs
theorem holdAs_sub : ∀ {as : List AV} {vs : List V} {hs : Hd}, ∀ p, p ∈ hs → p ∈ holdAs as vs hs
  | [], vs, hs, p, hp => hp
  | a :: as, [], hs, p, hp => hp
  | a :: as, v :: vs, hs, p, hp => hold_sub p (holdAs_sub (as := as) (vs := vs) p hp)
section
variable {K : PySem.W.Frag} {hs : Hd} {σ : L2.St} {H : Hp} {ρ : Env} {O : Own}
theorem StR.holdAs (st : StR G K hs σ H ρ O) : ∀ {as : List AV} {vs : List V}, AvsR σ K O H as vs → StR G K (Vx.holdAs as vs hs) σ H ρ O
  | [], vs, h => st
  | a :: as, vs, h => by
    obtain ⟨v, r, rfl, h1, h2⟩ := h
    exact (StR.holdAs st h2).holdA h1
theorem StR.heldAs {hs2 : Hd} (st : StR G K hs2 σ H ρ O) {O1 : Own} {H1 : Hp} : ∀ {as : List AV} {vs : List V}, AvsR σ K O1 H1 as vs → (∀ p, p ∈ Vx.holdAs as vs [] → p ∈ hs2) → AvsR σ K O H as vs
  | [], vs, h, _ => h
  | a :: as, vs, h, hm => by
    obtain ⟨v, r, rfl, h1, h2⟩ := h
    exact ⟨v, r, rfl, st.heldA h1 (fun p hp => hm p (hold_nil p hp)), StR.heldAs st h2 fun p hp => hm p (hold_sub p hp)⟩
theorem holdAs_nil : ∀ {as : List AV} {vs : List V}, ∀ p, p ∈ Vx.holdAs as vs [] → p ∈ Vx.holdAs as vs hs
  | [], vs, p, hp => (nomatch hp)
  | a :: as, [], p, hp => (nomatch hp)
  | a :: as, v :: vs, p, hp => by
    have hp' : p ∈ a.hold v (Vx.holdAs as vs []) := hp
    show p ∈ a.hold v (Vx.holdAs as vs hs)
    cases a with
    | v d =>
      rcases List.mem_cons.mp hp' with e | hp'
      · rw [e]; exact List.mem_cons_self
      · exact List.mem_cons_of_mem _ (holdAs_nil p hp')
    | b i => exact holdAs_nil (as := as) (vs := vs) p hp'
    | m i => exact holdAs_nil (as := as) (vs := vs) p hp'
end
section
variable {n m : Nat} {ix : List Nat} {df : List D} {kws : List Keyword} {ks : List Str} {qs : List OpP}
/-- the keywords' values, one behind another -/
structure VKw (X : Cx) (G : Gh) (kws : List Keyword) (ps : List OpP) : Prop where
  mono : LMono ps
  run : ∀ We, Tk X G We → PK X kws (TOps G X.K ps We)
theorem vk_nil : VKw X G [] [] := ⟨fun ρ k k' W W' hk hW h => hk _ _ h, fun We tk => ⟨fun ps0 pins s σ H Q I h => by
  obtain ⟨hs, ρ, O, st, z⟩ := h
  exact pk_nil.run ps0 pins s σ H Q I (z [] H O st rfl)⟩⟩
theorem vk_cons {nm : Option Str} {kp : Pos} {po : OpP} (ha : VO X G e po) (hr : VKw X G kws qs) : VKw X G (⟨nm, e, kp⟩ :: kws) (po :: qs) := by
  refine ⟨fun ρ k k' W W' hk hW h => ha.mono ρ _ _ W W' (fun a r q => hr.mono r _ _ W W' (fun as r2 q2 => hk _ _ q2) hW q) hW h, fun We tk => ⟨fun ps0 pins s σ H Q I h => ?_⟩⟩
  refine (pk_cons (ha.run We tk) (hr.run We tk)).run ps0 pins s σ H Q I ?_
  obtain ⟨hs, ρ, O, st, q⟩ := h
  refine ⟨hs, ρ, O, st, ha.mono ρ _ _ _ _ (fun a r q x H1 O1 st1 r1 => ?_) (fun _ _ _ w => w) q⟩
  refine ⟨a.hold x hs, r, O1, st1.holdA r1, hr.mono r _ _ _ _ (fun as r2 q2 ys H2 O2 st2 r2 => ?_) (tk.up _ _ hold_sub) q⟩
  have st3 := st2.fewer (hs' := hs) hold_sub
  exact q2 (x :: ys) H2 O2 st3 ⟨x, ys, rfl, st2.heldA (a := a) r1 hold_nil, r2⟩
/-- f(e, ..) with defaults -/
theorem ve_callD (F : FnV X.prog X.w X.K X.mg X.base k fa fd pn f) (gd : X.A.guards = some []) (hr : Room k X.A) (hg : Gl X x) (hm : X.mg x = some (.ref fa)) (hk : PySem.W.keepIn X.K (.ref fa) = true) (hb : BndG X.K fd pn n [] ix (df.map dfV)) (hd : df.all dfOk = true) (ha : VA X G (e :: es) ps)
    (hdb : (x == ("__debug__" : Str)) = false := by decide) (he : starEach (e :: es) X.env = (false, eval e X.env) :: starEach es X.env := by rfl) (hpl : (backTo pos (starEach es X.env)).any (·.1) = false := by rfl) :
    VE X G (.Call (.Name x p) (e :: es) [] pos) (vCallK f n 0 ix df ps []) := by
  obtain ⟨its, rits, hb⟩ := hb
  refine ⟨vCallK_mono F.mono ha.mono (vk_nil (X := X) (G := G)).mono, fun We tk => ⟨fun pins s σ H Q I ⟨hs, ρ, O, st, z⟩ => wpAny_Call_Name_kw (ld_glob I hg hm ?_ hdb)⟩⟩
  refine PySem.W.callWith_K (h₀ := X.base) I.ok.mod.kin hk (thn ((ha.run We tk).run pos pins s σ H (fun vs H1 => vs.length = n ∧ spV X.K pn.length f (sel ix (vs ++ df.map dfV)) H1 Q (WE (WXof X G We) σ)) I ⟨hs, ρ, O, st, ?_⟩) fun us s1 ⟨vs, H1, I1, rel, hl, q⟩ => ⟨I1.kIn, wp_ofG ?_⟩) he hpl
  · refine ha.mono ρ _ _ _ _ (fun as r z vs H1 O1 st1 rv => ?_) (fun _ _ _ w => w) z
    obtain ⟨hla, _, z⟩ := z
    simp only [List.append_nil] at z
    exact ⟨by rw [avsR_len rv, hla], call_run F.mono F.len st1 (avsR_sel (avsR_append (avsR_df hd) rv) ix) z⟩
  · have b := hb s1 us [] I1.kIn (by rw [← rel.length]; exact hl) rfl
    rw [List.append_nil] at b
    exact runG (E := WE (WXof X G We)) F.ok gd hr b (passAt tk.tk σ) I1 (vals_sel (rel.append rits) ix) q
/-- f(e, .., k = v, ..) -/
theorem ve_callK (F : FnV X.prog X.w X.K X.mg X.base k fa fd pn f) (gd : X.A.guards = some []) (hr : Room k X.A) (hg : Gl X x) (hm : X.mg x = some (.ref fa)) (hk : PySem.W.keepIn X.K (.ref fa) = true) (hb : BndG X.K fd pn n ks ix (df.map dfV)) (hd : df.all dfOk = true) (ha : VA X G (e :: es) ps) (hw : VKw X G kws qs)
    (hall : (backToKw pos (keywordEach kws X.env)).all (·.1.isSome) = true := by rfl) (hks : (backToKw pos (keywordEach kws X.env)).filterMap (·.1) = ks := by rfl) (hdb : (x == ("__debug__" : Str)) = false := by decide) (he : starEach (e :: es) X.env = (false, eval e X.env) :: starEach es X.env := by rfl)
    (hpl : ((backTo pos (starEach (e :: es) X.env)).any (·.1) || (backToKw pos (keywordEach kws X.env)).any (·.1.isNone)) = false := by rfl) :
    VE X G (.Call (.Name x p) (e :: es) kws pos) (vCallK f n ks.length ix df ps qs) := by
  obtain ⟨its, rits, hb⟩ := hb
  refine ⟨vCallK_mono F.mono ha.mono hw.mono, fun We tk => ⟨fun pins s σ H Q I ⟨hs, ρ, O, st, z⟩ => wpAny_Call_Name_kw (ld_glob I hg hm ?_ hdb)⟩⟩
  refine PySem.W.callWith_KW (h₀ := X.base) I.ok.mod.kin hk hall (thn ((ha.run We tk).run pos pins s σ H (fun vs H1 => TOps G X.K qs We σ H1 fun zs H2 => vs.length = n ∧ zs.length = ks.length ∧ spV X.K pn.length f (sel ix (vs ++ zs ++ df.map dfV)) H2 Q (WE (WXof X G We) σ)) I ⟨hs, ρ, O, st, ?_⟩) fun us s1 ⟨vs, H1, I1, rel, q⟩ => ?_) hpl he
  · refine ha.mono ρ _ _ _ _ (fun as r z vs H1 O1 st1 rv => ?_) (fun _ _ _ w => w) z
    obtain ⟨hla, z⟩ := z
    refine ⟨holdAs as vs hs, r, O1, st1.holdAs rv, hw.mono r _ _ _ _ (fun bs r2 z zs H2 O2 st2 rz => ?_) (tk.up _ _ holdAs_sub) z⟩
    obtain ⟨hlb, z⟩ := z
    have st3 := st2.fewer (hs' := hs) holdAs_sub
    exact ⟨by rw [avsR_len rv, hla], by rw [avsR_len rz, hlb], call_run F.mono F.len st3 (avsR_sel (avsR_append (avsR_df hd) (avsR_append rz (st2.heldAs rv holdAs_nil))) ix) z⟩
  · refine thn ((hw.run We tk).run pos pins s1 σ H1 _ I1 q) fun ws s2 ⟨zs, H2, I2, rz, l1, l2, q2⟩ => ⟨I2.kIn, wp_ofG ?_⟩
    rw [hks]
    exact runG (E := WE (WXof X G We)) F.ok gd hr (hb s2 us ws I2.kIn (by rw [← rel.length]; exact l1) (by rw [← rz.length]; exact l2)) (passAt tk.tk σ) I2 (vals_sel ((rel.append rz).append rits) ix) q2
/-- f(k = v, ..) -/
theorem ve_callK0 (F : FnV X.prog X.w X.K X.mg X.base k fa fd pn f) (gd : X.A.guards = some []) (hr : Room k X.A) (hg : Gl X x) (hm : X.mg x = some (.ref fa)) (hk : PySem.W.keepIn X.K (.ref fa) = true) (hb : BndG X.K fd pn 0 ks ix (df.map dfV)) (hd : df.all dfOk = true) (hw : VKw X G kws qs)
    (hall : (backToKw pos (keywordEach kws X.env)).all (·.1.isSome) = true := by rfl) (hks : (backToKw pos (keywordEach kws X.env)).filterMap (·.1) = ks := by rfl) (hdb : (x == ("__debug__" : Str)) = false := by decide)
    (hpl : ((backTo pos (starEach [] X.env)).any (·.1) || (backToKw pos (keywordEach kws X.env)).any (·.1.isNone)) = false := by rfl) :
    VE X G (.Call (.Name x p) [] kws pos) (vCallK f 0 ks.length ix df [] qs) := by
  obtain ⟨its, rits, hb⟩ := hb
  refine ⟨vCallK_mono F.mono (va_nil (X := X) (G := G)).mono hw.mono, fun We tk => ⟨fun pins s σ H Q I ⟨hs, ρ, O, st, z⟩ => wpAny_Call_Name_kw (ld_glob I hg hm ?_ hdb)⟩⟩
  obtain ⟨_, z⟩ := z
  refine PySem.W.callWith_KW0 (h₀ := X.base) I.ok.mod.kin hk hall (thn ((hw.run We tk).run pos pins s σ H (fun zs H2 => zs.length = ks.length ∧ spV X.K pn.length f (sel ix (zs ++ df.map dfV)) H2 Q (WE (WXof X G We) σ)) I ⟨hs, ρ, O, st, ?_⟩) fun ws s2 ⟨zs, H2, I2, rz, l2, q2⟩ => ⟨I2.kIn, wp_ofG ?_⟩) hpl
  · refine hw.mono ρ _ _ _ _ (fun bs r2 z zs H2 O2 st2 rz => ?_) (fun _ _ _ w => w) z
    obtain ⟨hlb, z⟩ := z
    exact ⟨by rw [avsR_len rz, hlb], call_run F.mono F.len st2 (avsR_sel (avsR_append (avsR_df hd) rz) ix) z⟩
  · rw [hks]
    exact runG (E := WE (WXof X G We)) F.ok gd hr (hb s2 [] ws I2.kIn rfl (by rw [← rz.length]; exact l2)) (passAt tk.tk σ) I2 (vals_sel (rz.append rits) ix) q2
end
end
end Vx

namespace Vx
open PySem PySem.Spec PyProof.Rows L2

/-! ### comprehensions -/
def wipeE (ρ : Env) : List Nat → Env
  | [] => ρ
  | v :: vs => (wipeE ρ vs).set v none
theorem wipeE_some {ρ : Env} {i : Nat} {sv : SV} : ∀ {vs : List Nat}, (wipeE ρ vs)[i]? = some (some sv) → ρ[i]? = some (some sv) ∧ i ∉ vs
  | [], h => ⟨h, by simp⟩
  | v :: vs, h => by
    unfold wipeE at h
    rcases set_at h with ⟨_, e, _⟩ | ⟨hi, e⟩
    · cases e
    · obtain ⟨h1, h2⟩ := wipeE_some e
      exact ⟨h1, by simp only [List.mem_cons, not_or]; exact ⟨hi, h2⟩⟩
theorem wipe_get {σ : L2.St} {i : Nat} : ∀ {vs : List Nat}, i ∉ vs → (wipe σ vs)[i]? = σ[i]?
  | [], _ => rfl
  | v :: vs, h => by
    rw [List.mem_cons, not_or] at h
    unfold wipe
    rw [List.getElem?_set_ne (Ne.symm h.1), wipe_get h.2]
theorem wipe_in {σ : L2.St} {i : Nat} : ∀ {vs : List Nat}, i ∈ vs → i < σ.length → (wipe σ vs)[i]? = some none
  | v :: vs, h, hl => by
    unfold wipe
    by_cases e : v = i
    · subst e
      exact List.getElem?_set_self (by rw [wipe_length]; exact hl)
    · rw [List.getElem?_set_ne e]
      rcases List.mem_cons.mp h with z | z
      · exact absurd z.symm e
      · exact wipe_in z hl
theorem wipe_only {σ σ' : L2.St} {vs is : List Nat} (h : Only is (wipe σ vs) σ') (hs : ∀ i, i ∈ is → i ∈ vs) : wipe σ' vs = wipe σ vs := by
  have hl : σ'.length = σ.length := by rw [h.1, wipe_length]
  apply List.ext_getElem?
  intro i
  by_cases hi : i ∈ vs
  · by_cases hlt : i < σ.length
    · rw [wipe_in hi hlt, wipe_in hi (by rw [hl]; exact hlt)]
    · rw [List.getElem?_eq_none (by rw [wipe_length]; omega), List.getElem?_eq_none (by rw [wipe_length]; omega)]
  · rw [wipe_get hi, h.2 i fun z => hi (hs i z)]
section
variable {G : Gh} {K : PySem.W.Frag} {hs : Hd} {σ σ' : L2.St} {H : Hp} {ρ : Env} {O : Own}
theorem StR.resig (st : StR G K hs σ H ρ O) (hl : σ'.length = σ.length) (h : ∀ (i : Nat) (sv : SV), ρ[i]? = some (some sv) → σ'[i]? = σ[i]?) : StR G K hs σ' H ρ O :=
  ⟨by rw [hl]; exact st.len, fun i sv e => by rw [h i sv e]; exact st.slot i sv e, fun i j sv tv a hij ei ej oi oj si sj => st.inj i j sv tv a hij ei ej oi oj (by rw [← h i sv ei]; exact si) (by rw [← h j tv ej]; exact sj), st.held,
    fun a xs hp => let ⟨h1, h2, h3, h4⟩ := st.pins a xs hp; ⟨h1, h2, h3, fun j tv e o => by rw [h j tv e]; exact h4 j tv e o⟩, st.outer, st.mo, st.keep, st.alloc,
    fun i ds e => let ⟨a, h1, h2⟩ := st.mus i ds e; ⟨a, h1, by rw [h i _ e]; exact h2⟩, st.alloc0⟩
theorem StR.wipe (st : StR G K hs σ H ρ O) : ∀ vs : List Nat, StR G K hs σ H (wipeE ρ vs) O
  | [] => st
  | v :: vs => (st.wipe vs).drop
/-- back from a block's slots -/
theorem StR.unwipe {vs : List Nat} (st : StR G K hs σ' H ρ O) (e : L2.wipe σ' vs = L2.wipe σ vs) : StR G K hs σ H (wipeE ρ vs) O :=
  (st.wipe vs).resig (by have := congrArg List.length e; rw [wipe_length, wipe_length] at this; exact this.symm) fun i sv h => by
    obtain ⟨_, hi⟩ := wipeE_some h
    rw [← wipe_get (σ := σ) hi, ← wipe_get (σ := σ') hi, e]
end
def noW : WxV := fun _ _ _ => False
def lcL (vs : List Nat) (g : PGv) (tt : PTv) (elt : PEv) : List D → List D → Env → (List D → Env → Prop) → Prop
  | [], acc, ρ, k => k acc ρ
  | d :: ds, acc, ρ, k => g (.sh d) ρ fun r => tt r (fun b r2 => if b = true then elt r2 (fun sv r3 => acc.length < 16777216 ∧ lcL vs g tt elt ds (acc ++ [sv.fz]) (wipeE r3 vs) k) noW else lcL vs g tt elt ds acc (wipeE r2 vs) k) noW
def vLc (vs : List Nat) (src : PSrc) (g : PGv) (tt : PTv) (elt : PEv) : PEv := fun ρ Q W => src ρ (fun items r => lcL vs g tt elt items [] (wipeE r vs) fun acc r2 => Q (.ow acc) r2) W
theorem lcL_mono {vs : List Nat} {g : PGv} {tt : PTv} {elt : PEv} (hg : GMono g) (ht : TMono tt) (he : EMono elt) : ∀ (ds acc : List D) (ρ : Env) (k k' : List D → Env → Prop), (∀ a r, k a r → k' a r) → lcL vs g tt elt ds acc ρ k → lcL vs g tt elt ds acc ρ k'
  | [], acc, ρ, k, k', hk, z => hk _ _ z
  | d :: ds, acc, ρ, k, k', hk, z => hg _ _ _ _ (fun r z => ht r _ _ _ _ (fun b r2 z => by
    split at z
    · rename_i hb
      rw [if_pos hb]
      exact he r2 _ _ _ _ (fun sv r3 z => ⟨z.1, lcL_mono hg ht he ds _ _ k k' hk z.2⟩) (fun _ _ _ w => w) z
    · rename_i hb
      rw [if_neg hb]
      exact lcL_mono hg ht he ds _ _ k k' hk z) (fun _ _ _ w => w) z) z
def vtYes : PTv := fun ρ Q _ => Q true ρ
structure VTs (X : Cx) (G : Gh) (ifs : List Expr) (p : PTv) : Prop where
  mono : TMono p
  run : ∀ We, Tk X G We → PTs X ifs (TTv G X.K p We)
theorem _root_.L2.PTs.weak {X : Cx} {e : List Expr} {t t' : TT} (h : PTs X e t) (hw : ∀ σ H Q, t' σ H Q → t σ H Q) : PTs X e t' := ⟨fun pins s σ H Q I q => h.run pins s σ H Q I (hw σ H Q q)⟩
theorem vts_nil {X : Cx} {G : Gh} : VTs X G [] vtYes := ⟨fun ρ Q Q' W W' hQ _ h => hQ _ _ h, fun We tk => pts_nil.weak fun σ H Q ⟨hs, ρ, O, st, z⟩ => z H O st⟩
theorem vts_one {X : Cx} {G : Gh} {c : Expr} {p : PTv} (h : VT X G c p) : VTs X G [c] p := ⟨h.mono, fun We tk => pts_one (h.run We tk)⟩
section
variable {X : Cx} {G : Gh} {We : Hd → WxV} {elt tg iter : Expr} {ifs : List Expr} {scope : Scope} {own : List (Str × Nat)} {pos : Pos} {src : PSrc} {g : PGv} {tt : PTv} {pe : PEv} {is : List Nat}
theorem tk_no (hx : X.xe = fun _ _ => False) : Tk X G fun _ => noW := ⟨fun u s' x => by
  obtain ⟨_, _, _, _, _, _, _, _, _, _, _, _, _, _, _, _, _, _, _, _, _, _, _, _, z⟩ := x
  exact z.elim, by rw [hx]; exact PassesOwn.never, fun _ _ _ _ _ _ h => h⟩
theorem vLc_mono {vs : List Nat} (hs : SrcMono src) (hg : GMono g) (ht : TMono tt) (he : EMono pe) : EMono (vLc vs src g tt pe) := fun ρ Q Q' W W' hQ hW z => hs ρ _ _ _ _ (fun items r z => lcL_mono hg ht he _ _ _ _ _ (fun acc r2 z => hQ _ _ z) z) hW z
/-- the reading of a comprehension -/
theorem tLc_of {wi : TI} (hg : GMono g) (ht : TMono tt) (he : EMono pe) (his : ∀ i, i ∈ is → i ∈ own.map (·.2)) (hm : SrcMono src)
    (hrun : ∀ σ H R, (∃ hs ρ O, StR G X.K hs σ H ρ O ∧ src ρ (fun items ρ1 => ∀ J H1 hs1 O1, (∀ p, p ∈ hs → p ∈ hs1) → StR G X.K hs1 σ H1 ρ1 O1 → ItR G X.K hs1 σ J items → R J H1) (We hs)) → wi σ H R) {σ : L2.St} {H : Hp} {Q : VK}
    (z : TV G X.K (vLc (own.map (·.2)) src g tt pe) We σ H Q) : tLc wi (TGv G X.K g is) (TTv G X.K tt fun _ => noW) (TV G X.K pe fun _ => noW) (own.map (·.2)) σ H Q := by
  obtain ⟨hs, ρ, O, st, z⟩ := z
  refine hrun σ H _ ⟨hs, ρ, O, st, hm ρ _ _ _ _ (fun items r z J H1 hs1 O1 hsub st1 hJ Da hD => ?_) (fun _ _ _ w => w) z⟩
  generalize hvs : own.map (·.2) = vs at z his
  have hfr : ∀ zs, HdI.own Da zs ∉ hs1 := fun zs hz => by rw [(st1.pins Da zs hz).1] at hD; cases hD
  refine ⟨fun i m H => ∃ ρ O acc xs, StR G X.K (.own Da xs :: (zipV acc xs ++ hs1)) σ H ρ O ∧ xs.length = acc.length ∧ (∀ (i : Nat) (sv : SV), ρ[i]? = some (some sv) → i ∉ vs) ∧ i + m = items.length ∧
    lcL vs g tt pe (items.drop i) acc ρ (fun acc r2 => ∀ v H' O', StR G X.K hs σ H' r2 O' → ResR G X.K hs σ r2 O' H' (.ow acc) v → Q v H'), ⟨items.length, ?_⟩, ?_⟩
  · obtain ⟨st2, r2⟩ := st1.resLst (ds := []) hD (repL_nil.mpr rfl)
    obtain ⟨a, xs, e, rr, st3⟩ := st2.pin r2
    cases e
    rw [repL_nil.mp rr] at st3
    exact ⟨wipeE r vs, _, [], [], st3.wipe vs, rfl, fun i sv h => (wipeE_some h).2, by omega, by rw [List.drop_zero]; exact z⟩
  · rintro i m H ⟨ρ, O, acc, xs, st, hl, hw, hm, z⟩
    have hz : ∀ zs, HdI.own Da zs ∉ zipV acc xs ++ hs1 := fun zs hz => by
      rcases List.mem_append.mp hz with hz | hz
      · have key : ∀ (acc : List D) (xs : List V), HdI.own Da zs ∉ zipV acc xs := by
          intro acc
          induction acc with
          | nil => intro xs h; unfold zipV at h; cases h
          | cons d ds ih =>
            intro xs h
            cases xs with
            | nil => unfold zipV at h; cases h
            | cons x xs => exact ih xs (by rcases List.mem_cons.mp (show HdI.own Da zs ∈ HdI.val d x :: zipV ds xs from h) with e | h
                                           · cases e
                                           · exact h)
        exact key acc xs hz
      · exact hfr zs hz
    have sub1 : ∀ p, p ∈ hs1 → p ∈ HdI.own Da xs :: (zipV acc xs ++ hs1) := fun p hp => List.mem_cons_of_mem _ (List.mem_append_right _ hp)
    by_cases hi : i < items.length
    · right
      have hd : items[i]? = some items[i] := List.getElem?_eq_getElem hi
      obtain ⟨go, yl⟩ := (hJ _ i ρ σ H O sub1 st).2 _ hd
      rw [List.drop_eq_getElem_cons hi] at z
      refine ⟨go, fun H => ∃ ρ O acc xs, StR G X.K (.own Da xs :: (zipV acc xs ++ hs1)) σ H ρ O ∧ xs.length = acc.length ∧ (∀ (i : Nat) (sv : SV), ρ[i]? = some (some sv) → i ∉ vs) ∧ (i + 1) + (m - 1) = items.length ∧
        lcL vs g tt pe (items.drop (i + 1)) acc ρ (fun acc r2 => ∀ v H' O', StR G X.K hs σ H' r2 O' → ResR G X.K hs σ r2 O' H' (.ow acc) v → Q v H'), fun H' h => ⟨m - 1, by omega, h⟩, fun x H' hy => ?_⟩
      obtain ⟨O', st', rx⟩ := yl x H' hy
      have stw : StR G X.K (.own Da xs :: (zipV acc xs ++ hs1)) (L2.wipe σ vs) H' ρ O' := st'.resig (wipe_length _ _) fun j sv e => wipe_get (hw j sv e)
      refine ⟨_, ρ, O', .sh items[i], stw, rx, hg _ _ _ _ (fun r z σ2 O2 on st2 => ?_) z⟩
      have hwp := wipe_only on his
      refine ⟨hwp, _, r, O2, st2, ht r _ _ _ _ (fun b r2 z H3 O3 st3 => ?_) (fun _ _ _ w => w) z⟩
      split at z
      · rename_i hb
        rw [if_pos hb]
        refine ⟨_, r2, O3, st3, he r2 _ _ _ _ (fun sv r3 z v H4 O4 st4 rv => ?_) (fun _ _ _ w => w) z⟩
        obtain ⟨O5, st5, _, rv5⟩ := ResR.freeze st4 rv
        obtain ⟨p1, _⟩ := st5.pins Da xs List.mem_cons_self
        have racc : RepL X.K O5 H4 acc xs := st5.heldL hl fun p hp => List.mem_cons_of_mem _ (List.mem_append_left _ hp)
        refine ⟨xs, p1, lineL (by rw [hl]; exact z.1), ?_⟩
        obtain ⟨st6, s6⟩ := st5.pinWrite (ys := xs ++ [v]) hz
        have racc6 : RepL X.K O5 (upd H4 Da (.lst (xs ++ [v]))) (acc ++ [sv.fz]) (xs ++ [v]) := (RepL.stp s6 _ _ racc).append (RepL.one (Rep.stp s6 _ _ rv5))
        have st7 : StR G X.K (.own Da (xs ++ [v]) :: (zipV (acc ++ [sv.fz]) (xs ++ [v]) ++ hs1)) σ2 (upd H4 Da (.lst (xs ++ [v]))) r3 O5 := by
          have hh := (st6.fewer (hs' := .own Da (xs ++ [v]) :: hs1) fun p hp => by
            rcases List.mem_cons.mp hp with e | hp
            · rw [e]; exact List.mem_cons_self
            · exact List.mem_cons_of_mem _ (List.mem_append_right _ hp)).holdL racc6
          exact hh.fewer fun p hp => by
            rcases List.mem_cons.mp hp with e | hp
            · rw [e]; exact List.mem_append_right _ List.mem_cons_self
            · rcases List.mem_append.mp hp with hp | hp
              · exact List.mem_append_left _ hp
              · exact List.mem_append_right _ (List.mem_cons_of_mem _ hp)
        exact ⟨wipeE r3 vs, O5, acc ++ [sv.fz], xs ++ [v], st7.unwipe hwp, by rw [List.length_append, List.length_append, hl]; rfl, fun j sv e => (wipeE_some e).2, by omega, z.2⟩
      · rename_i hb
        rw [if_neg hb]
        exact ⟨wipeE r2 vs, O3, acc, xs, st3.unwipe hwp, hl, fun j sv e => (wipeE_some e).2, by omega, z⟩
    · left
      rw [List.drop_eq_nil_of_le (by omega)] at z
      refine ⟨(hJ _ i ρ σ H O sub1 st).1 (by omega), ?_⟩
      obtain ⟨p1, p2, p3, p4⟩ := st.pins Da xs List.mem_cons_self
      have racc : RepL X.K O H acc xs := st.heldL hl fun p hp => List.mem_cons_of_mem _ (List.mem_append_left _ hp)
      exact z (.ref Da) H O (st.fewer fun p hp => sub1 p (hsub p hp)) ⟨Da, xs, rfl, p1, p2, p3, racc, p4, fun ys hy => hfr ys (hsub _ hy)⟩
theorem ve_lc (hc : X.calm = true) (hN : X.N.Nodup) (hi : VI X G tg iter src) (ok : BlkOk X.N X.env.scope scope own)
    (hg : ∀ (s : Shared) (H : Hp) (C : Addr) (cl : List (Str × Addr)) (fp : List Addr), VG (X.blk s H scope (compEnvC scope cl C X.env) fp) G tg g is) (his : ∀ i, i ∈ is → i ∈ own.map (·.2))
    (ht : ∀ (s : Shared) (H : Hp) (C : Addr) (cl : List (Str × Addr)) (fp : List Addr), VTs (X.blk s H scope (compEnvC scope cl C X.env) fp) G ifs tt)
    (he : ∀ (s : Shared) (H : Hp) (C : Addr) (cl : List (Str × Addr)) (fp : List Addr), VE (X.blk s H scope (compEnvC scope cl C X.env) fp) G elt pe) (gm : GMono g) (tm : TMono tt) (em : EMono pe) (hs : ∀ x, foldedSetIterable iter X.env x = pure x := by intro _; rfl) :
    VE X G (.ListComp elt [⟨tg, iter, ifs, 0⟩] scope pos) (vLc (own.map (·.2)) src g tt pe) := by
  refine ⟨vLc_mono hi.mono gm tm em, fun We tk => ?_⟩
  obtain ⟨wi, hwi, hrun⟩ := hi.run We tk
  exact (pe_lc (te := TV G X.K pe fun _ => noW) (tt := TTv G X.K tt fun _ => noW) (g := TGv G X.K g is) hc hN hwi ok (fun s H C cl fp => (hg s H C cl fp).run) (fun s H C cl fp => (ht s H C cl fp).run _ (tk_no rfl)) (fun s H C cl fp => (he s H C cl fp).run _ (tk_no rfl)) hs).weak fun σ H Q z => tLc_of gm tm em his hi.mono hrun z
theorem vs_setLc {i : Nat} {y : Str} {py spos : Pos} (hc : X.calm = true) (hN : X.N.Nodup) (hy : X.N[i]? = some y) (hyl : X.env.scope.names.lookup y = some .local)
    (hsw : swapsWith (.ListComp elt [⟨tg, iter, ifs, 0⟩] scope pos) (some (.Name y py)) spos.line X.env = pure true) (hi : VI X G tg iter src) (ok : BlkOk X.N X.env.scope scope own)
    (hg : ∀ (s : Shared) (H : Hp) (C : Addr) (cl : List (Str × Addr)) (fp : List Addr), VG (X.blk s H scope (compEnvC scope cl C X.env) fp) G tg g is) (his : ∀ i, i ∈ is → i ∈ own.map (·.2))
    (ht : ∀ (s : Shared) (H : Hp) (C : Addr) (cl : List (Str × Addr)) (fp : List Addr), VTs (X.blk s H scope (compEnvC scope cl C X.env) fp) G ifs tt)
    (he : ∀ (s : Shared) (H : Hp) (C : Addr) (cl : List (Str × Addr)) (fp : List Addr), VE (X.blk s H scope (compEnvC scope cl C X.env) fp) G elt pe) (gm : GMono g) (tm : TMono tt) (em : EMono pe) (hs : ∀ x, foldedSetIterable iter X.env x = pure x := by intro _; rfl) :
    VS X G (.Assign [.Name y py] (.ListComp elt [⟨tg, iter, ifs, 0⟩] scope pos) spos) (vsAsg (vLc (own.map (·.2)) src g tt pe) (vgName i)) := by
  refine ⟨vsAsg_mono (vLc_mono hi.mono gm tm em) (fun sv ρ k k' hk h => hk _ h), fun We tk => ?_⟩
  obtain ⟨wi, hwi, hrun⟩ := hi.run We tk
  refine (ps_setLc (te := TV G X.K pe fun _ => noW) (tt := TTv G X.K tt fun _ => noW) (g := TGv G X.K g is) hc hN hy hyl hsw hwi ok (fun s H C cl fp => (hg s H C cl fp).run) (fun s H C cl fp => (ht s H C cl fp).run _ (tk_no rfl)) (fun s H C cl fp => (he s H C cl fp).run _ (tk_no rfl)) hs).weak fun D σ H ⟨hs, ρ, O, st, z⟩ => ?_
  refine tLc_of gm tm em his hi.mono hrun ⟨hs, ρ, O, st, vLc_mono hi.mono gm tm em ρ _ _ _ _ (fun sv r z v H' O' st' rv => ?_) (fun _ _ _ w => w) z⟩
  exact z _ H' O' (st'.set rv)
end
end Vx

namespace Vx
open PySem PySem.Spec PyProof.Rows L2

/-! ### a law's end -/
/-- an abstract heap that holds the script alone -/
structure Lone (P : Program) (w : World) (K : PySem.W.Frag) (s : Shared) (a : Addr) (xs : List V) (H : Hp) : Prop where
  only : ∀ b, H b = none ∨ b = a ∧ ∃ o ys, H b = some (.frz o (.lst ys))
  sq : SqL K H a xs
  hok : HOk P w H s.heap
  apart : H a ≠ none → K.lookup a = none
theorem lone_of {P : Program} {w : World} {K : PySem.W.Frag} {s : Shared} {a : Addr} {us : List Value} {ns : List Int} (inK : K.In s.heap) (ob : s.heap.get? a = some { cls := .type "list", data := .seq us.toArray }) (ar : IntsAre us ns) (small : ns.length ≤ sizeLine) :
    ∃ H, Lone P w K s a (ns.map V.int) H := by
  have rel := vals_ints ar
  have len := ar.length
  cases lk : K.lookup a with
  | none =>
    let ob1 : Obj := { cls := .type "list", data := .seq us.toArray }
    refine ⟨fun b => if b = a then some (.frz ob1 (.lst (ns.map V.int))) else none, fun b => ?_, .inl (.inr ⟨ob1, if_pos rfl⟩), fun b u z => ?_, fun _ => lk⟩
    · by_cases e : b = a
      · exact .inr ⟨e, ob1, _, if_pos e⟩
      · exact .inl (if_neg e)
    · by_cases e : b = a
      · subst e
        have z1 : some (HO.frz ob1 (.lst (ns.map V.int))) = some u := (if_pos rfl).symm.trans z
        cases z1
        exact ⟨ob, by rw [List.length_map]; exact small, us, _, rel, ob⟩
      · have z1 : none = some u := (if_neg e).symm.trans z
        cases z1
  | some o =>
    have e := inK a o lk
    rw [ob] at e
    cases e
    refine ⟨fun _ => none, fun _ => .inl rfl, .inr ⟨_, us.toArray, _, lk, rfl, rfl, rfl, by rw [List.size_toArray, len]; exact small, by simpa using rel⟩, fun b u z => ?_, fun z => absurd rfl z⟩
    have z1 : (none : Option HO) = some u := z
    cases z1
theorem law_callG {P : Program} {w : World} {K : PySem.W.Frag} {mg mb : Str → Option Value} {k : Nat} {fa a : Addr} {fd : FuncData} {x : Str} {f : PFn} {s : Shared} {us : List Value} {ns : List Int}
    (inK : K.In s.heap) (gns : s.heap.Ns mainGlobals mg) (bns : s.heap.Ns builtinsNs mb) (boot : ∀ x : Str, x ≠ "__name__" → mb x = bootBuiltins x) (nol : s.heap.NoLimit) (nog : s.gens = #[])
    (ob : s.heap.get? a = some { cls := .type "list", data := .seq us.toArray }) (ar : IntsAre us ns) (small : ns.length ≤ sizeLine) (room : Room k callerA)
    (F : ∀ base : Heap, K.In base → base.Ns mainGlobals mg → FnV P w K mg base k fa fd [x] f) (bd : ∀ (s : Shared) (u : Value), BindsTo s fd ⟨[u], []⟩ [(x, u)])
    (law : f [.bo (ns.map D.int)] (fun sv _ => sv = .sh (.bl true)) fun _ _ _ => False) :
    codeAny (model P w) callerA (.call (.ref fa) ⟨[.ref a], []⟩) (fun r s' => r = .ok (.ret (.bool true)) ∧ OldK s.heap s'.heap ∧ s'.os = s.os ∧ AllBare s'.gens) s := by
  obtain ⟨H, L⟩ := lone_of (P := P) (w := w) inK ob ar small
  have atA : ∀ {b : Addr}, H b ≠ none → b = a := fun {b} z => (L.only b).elim (fun e => absurd e z) (·.1)
  have free : ∀ {b : Addr} {o : Obj} {es : Array DictEntry} {ep : Nat}, s.heap.get? b = some o → o.data = .dict es ep → H b = none := fun {b o es ep} e d => Classical.byContradiction fun z => by
    cases atA z
    rw [ob] at e; cases e
    cases (show Data.seq us.toArray _ = Data.dict es ep from d)
  have nsT : ∀ {b : Addr} {m : Str → Option Value}, s.heap.Ns b m → (hidT s.heap H).Ns b m := fun {b m} ⟨o, es, ep, e, d, r⟩ => ⟨o, es, ep, hidT_get e (free e d), d, r⟩
  have inT : K.In (hidT s.heap H) := fun b o e => hidT_get (inK b o e) (Classical.byContradiction fun z => by
    cases atA z
    rw [L.apart z] at e; cases e)
  have md : Mod K mg (hidT s.heap H) := ⟨inT, nsT gns, ⟨mb, nsT bns, boot⟩, let ⟨mc, h1, h2⟩ := nol; ⟨mc, nsT h1, h2⟩⟩
  have none_in : ∀ b : Addr, b ∉ ([] : List Addr) := fun b z => nomatch z
  have at0 : Env0 P w K mg (hidT s.heap H) callerA [] s H := ⟨rfl, md, fun b o e => of_hidT e, Nat.le_of_eq (hidT_size _ _), trivial, fun b z => absurd z (none_in b), L.hok, .of_eq nog⟩
  have F1 := F _ inT (nsT gns)
  have args : ArgsR K (fun _ => False) H [SV.bo (ns.map D.int)] [.ref a] := by
    refine ⟨rfl, fun i sv v h1 h2 => ?_, fun i j b h1 => ?_, fun _ z => z.elim⟩
    · match i, h1, h2 with
      | 0, h1, h2 =>
        cases h1; cases h2
        refine ⟨a, ns.map V.int, rfl, ?_, RepL.ints⟩
        rcases L.sq with q | q
        · refine .inl ⟨q, fun j z => ?_⟩
          match j, z with
          | 0, z => exact nomatch z
          | j + 1, z => exact nomatch z
        · obtain ⟨o, its, n, e1, e2, e3⟩ := q
          exact .inr ⟨o, its, n, e1, e2, e3⟩
      | i + 1, h1, _ => exact nomatch h1
    · match i, h1 with
      | 0, z => exact nomatch z
      | i + 1, z => exact nomatch z
  have want : spV K 1 f [.ref a] H (fun v _ => v = .bl true) fun _ _ _ => False := by
    refine ⟨rfl, _, _, args, F1.mono _ _ _ _ _ (fun sv r e v H' O' _ rr => ?_) (fun _ _ _ z => z.elim) law⟩
    subst e
    have rr' : Rep K O' H' (.bl true) v := rr
    exact rep_bl.mp rr'
  refine codeAny_mono (F1.ok.run callerA [] s H ⟨[.ref a], []⟩ [.ref a] [.ref a] _ _ rfl room at0 (bd s (.ref a)) (.cons rfl .nil) want) fun r s2 z => ?_
  match r, z with
  | .error e, z =>
    obtain ⟨_, _, _, _, _, _, _, _, _, _, _, _, no⟩ := z
    exact no.elim
  | .ok .next, z => exact z.elim
  | .ok .brk, z => exact z.elim
  | .ok .cont, z => exact z.elim
  | .ok (.ret u), z =>
    obtain ⟨v, H2, sameOs, bare2, un, hok2, rv, ev⟩ := z
    have ev' : v = .bl true := ev
    subst ev'
    obtain rfl : u = Value.bool true := rv
    refine ⟨rfl, OldK.of_keep fun b o e => ?_, sameOs, bare2⟩
    rcases L.only b with q | ⟨_, o1, ys, q⟩
    · exact un.keep b o e q (none_in b) (none_in b)
    · obtain ⟨f1, _⟩ := L.hok b _ q
      obtain ⟨f2, _⟩ := hok2 b _ (un.frzs b o1 _ q)
      rw [e] at f1; cases f1
      exact f2
/-- a law: its def's promise over every base, and that it answers True -/
theorem walk_ofG {l : PySem.W.OpenLaw} {n k : Nat} {q : Program} {loose : List Str} {XP : (Str → Option Value) → Heap → Prop} {YP : World → Heap → Prop} {d : DefRec} {x : Str} (f : PFn)
    (hn : l.most = some n) (hn2 : n ≤ sizeLine) (hdf : d.params.defaults = []) (room : Room k callerA)
    (law : ∀ ns : List Int, ns.length ≤ n → f [.bo (ns.map D.int)] (fun sv _ => sv = .sh (.bl true)) fun _ _ _ => False)
    (F : ∀ (w : World) (mg : Str → Option Value) (fa : Addr) (h : Heap), YP w h → h.Ns mainGlobals mg → mg d.name = some (.ref fa) →
      ∃ (K : PySem.W.Frag) (fd : FuncData), K.In h ∧ (∀ (s : Shared) (u : Value), BindsTo s fd ⟨[u], []⟩ [(x, u)]) ∧ ∀ base : Heap, K.In base → base.Ns mainGlobals mg → FnV l.prog w K mg base k fa fd [x] f) :
    PySem.W.WalkO q loose XP YP l.row.toRowW d [] (fun f vs => PySem.call f vs) := by
  refine Att.attach_call hn hdf fun w s0 s1 mg mb fa o pm cd doc a us ns G Y _ _ _ hmg ob ar hlen nog => ?_
  obtain ⟨K, fd, inK, bd, hF⟩ := F w mg fa _ Y G.T.g hmg
  exact law_callG inK G.T.g G.T.b G.T.builtins G.T.nolimit nog ob ar (Nat.le_trans hlen hn2) room hF bd (law ns hlen)
end Vx

namespace Vx
open PySem PySem.Spec PyProof.Rows L2

/-! ### len, int, abs, max, min, tuple, list -/
def fLen : FN
  | [.lst ds], k => k (.sh (.int ds.length))
  | [.tup ds], k => k (.sh (.int ds.length))
  | [.str z], k => z.length ≤ 16777216 ∧ k (.sh (.int z.length))
  | _, _ => False
theorem fLen_mono : FN.Mono fLen := by
  intro ds k k' hk h
  unfold fLen at h ⊢
  split at h
  · exact hk _ h
  · exact hk _ h
  · exact ⟨h.1, hk _ h.2⟩
  · exact h.elim
def fInt1 : FN
  | [.int i], k => k (.sh (.int i))
  | [.bl b], k => k (.sh (.int (if b then 1 else 0)))
  | _, _ => False
theorem fInt1_mono : FN.Mono fInt1 := by
  intro ds k k' hk h
  unfold fInt1 at h ⊢
  split at h
  · exact hk _ h
  · exact hk _ h
  · exact h.elim
def fAbs : FN
  | [.int i], k => k (.sh (.int (if i < 0 then -i else i)))
  | _, _ => False
theorem fAbs_mono : FN.Mono fAbs := by
  intro ds k k' hk h
  unfold fAbs at h ⊢
  split at h
  · exact hk _ h
  · exact h.elim
def intsOf : List D → Option (List Int)
  | [] => some []
  | .int i :: ds => (intsOf ds).map (i :: ·)
  | _ => none
theorem intsOf_eq : ∀ {ds : List D} {ns : List Int}, intsOf ds = some ns → ds = ns.map D.int
  | [], ns, h => by cases h; rfl
  | d :: ds, ns, h => by
    cases d with
    | int i =>
      have h' : (intsOf ds).map (i :: ·) = some ns := h
      cases e : intsOf ds with
      | none => rw [e] at h'; cases h'
      | some ms => rw [e] at h'; cases h'; rw [intsOf_eq e]; rfl
    | _ => cases h
/-- max, min of two, of a list -/
def fMax : FN
  | [.int i, .int j], k => k (.sh (.int (if j > i then j else i)))
  | [.lst ds], k => match intsOf ds with
    | some ns => 0 < ns.length ∧ ∀ m, m ∈ ns → (∀ y, y ∈ ns → y ≤ m) → k (.sh (.int m))
    | none => False
  | _, _ => False
theorem fMax_mono : FN.Mono fMax := by
  intro ds k k' hk h
  unfold fMax at h ⊢
  split at h
  · exact hk _ h
  · split at h
    · exact ⟨h.1, fun m h1 h2 => hk _ (h.2 m h1 h2)⟩
    · exact h.elim
  · exact h.elim
def fMin : FN
  | [.int i, .int j], k => k (.sh (.int (if j < i then j else i)))
  | [.lst ds], k => match intsOf ds with
    | some ns => 0 < ns.length ∧ ∀ m, m ∈ ns → (∀ y, y ∈ ns → m ≤ y) → k (.sh (.int m))
    | none => False
  | _, _ => False
theorem fMin_mono : FN.Mono fMin := by
  intro ds k k' hk h
  unfold fMin at h ⊢
  split at h
  · exact hk _ h
  · split at h
    · exact ⟨h.1, fun m h1 h2 => hk _ (h.2 m h1 h2)⟩
    · exact h.elim
  · exact h.elim
def fTuple : FN
  | [.lst ds], k => k (.sh (.tup ds))
  | [.tup ds], k => k (.sh (.tup ds))
  | _, _ => False
theorem fTuple_mono : FN.Mono fTuple := by
  intro ds k k' hk h
  unfold fTuple at h ⊢
  split at h
  · exact hk _ h
  · exact hk _ h
  · exact h.elim
def fList : FN
  | [.lst ds], k => k (.ow ds)
  | [.tup ds], k => k (.ow ds)
  | _, _ => False
theorem fList_mono : FN.Mono fList := by
  intro ds k k' hk h
  unfold fList at h ⊢
  split at h
  · exact hk _ h
  · exact hk _ h
  · exact h.elim
/-- sorted(list of ints), fewer than 64 -/
def fSorted : FN
  | [.lst ds], k => match intsOf ds with
    | some ns => ns.length < 64 ∧ ∀ ms : List Int, ms.Perm ns → ms.Pairwise (· ≤ ·) → k (.ow (ms.map D.int))
    | none => False
  | _, _ => False
theorem fSorted_mono : FN.Mono fSorted := by
  intro ds k k' hk h
  unfold fSorted at h ⊢
  split at h
  · split at h
    · exact ⟨h.1, fun m h1 h2 => hk _ (h.2 m h1 h2)⟩
    · exact h.elim
  · exact h.elim
def blsOf : List D → Option (List Bool)
  | [] => some []
  | .bl i :: ds => (blsOf ds).map (i :: ·)
  | _ => none
theorem blsOf_eq : ∀ {ds : List D} {ns : List Bool}, blsOf ds = some ns → ds = ns.map D.bl
  | [], ns, h => by cases h; rfl
  | d :: ds, ns, h => by
    cases d with
    | bl i =>
      have h' : (blsOf ds).map (i :: ·) = some ns := h
      cases e : blsOf ds with
      | none => rw [e] at h'; cases h'
      | some ms => rw [e] at h'; cases h'; rw [blsOf_eq e]; rfl
    | _ => cases h
def fAnyL : FN
  | [.lst ds], k => match blsOf ds with
    | some bs => k (.sh (.bl (bs.any id)))
    | none => False
  | _, _ => False
def fAllL : FN
  | [.lst ds], k => match blsOf ds with
    | some bs => k (.sh (.bl (bs.all id)))
    | none => False
  | _, _ => False
theorem fAnyL_mono : FN.Mono fAnyL := by
  intro ds k k' hk h
  unfold fAnyL at h ⊢
  split at h
  · split at h
    · exact hk _ h
    · exact h.elim
  · exact h.elim
theorem fAllL_mono : FN.Mono fAllL := by
  intro ds k k' hk h
  unfold fAllL at h ⊢
  split at h
  · split at h
    · exact hk _ h
    · exact h.elim
  · exact h.elim
section
variable {K : PySem.W.Frag} {O : Own} {H : Hp}
theorem viewL_one {d : D} {vs : List V} (h : ViewL K O H [d] vs) : ∃ v, vs = [v] ∧ View K O H d v := by
  obtain ⟨v, r, rfl, h1, h2⟩ := h
  have h2' : r = [] := h2
  subst h2'
  exact ⟨v, rfl, h1⟩
theorem viewL_two {d e : D} {vs : List V} (h : ViewL K O H [d, e] vs) : ∃ v w, vs = [v, w] ∧ View K O H d v ∧ View K O H e w := by
  obtain ⟨v, r, rfl, h1, h2⟩ := h
  obtain ⟨w, rfl, h3⟩ := viewL_one h2
  exact ⟨v, w, rfl, h1, h3⟩
theorem RepL.ints_eq : ∀ {ns : List Int} {xs : List V}, RepL K O H (ns.map D.int) xs → xs = ns.map V.int
  | [], xs, h => repL_nil.mp h
  | n :: ns, xs, h => by
    obtain ⟨y, ys, rfl, r, t⟩ := repL_cons.mp h
    rw [rep_int.mp r, RepL.ints_eq t]; rfl
theorem RepL.bls_eq : ∀ {ns : List Bool} {xs : List V}, RepL K O H (ns.map D.bl) xs → xs = ns.map V.bl
  | [], xs, h => repL_nil.mp h
  | n :: ns, xs, h => by
    obtain ⟨y, ys, rfl, r, t⟩ := repL_cons.mp h
    rw [rep_bl.mp r, RepL.bls_eq t]; rfl
end
section
variable {X : Cx} {G : Gh}
abbrev rLenV (K : PySem.W.Frag) : List V → Hp → VK → Prop := fun xs H Q => (∃ p ys, xs = [.ref p] ∧ (SqL K H p ys ∨ SqT K H p ys) ∧ Q (.int ys.length) H) ∨ ∃ z, xs = [.str z] ∧ z.length ≤ sizeLine ∧ Q (.int z.length) H
theorem cr_lenV : CallR X (.builtin "len") (rLenV X.K) := CallR.or call_len_seq call_len_str
theorem cv_len : CallV X G (rLenV X.K) fLen := by
  intro σ hs ρ O H xs ds Q st vx hf
  unfold fLen at hf
  split at hf
  · obtain ⟨v, rfl, h1⟩ := viewL_one vx
    obtain ⟨a, ys, rfl, t, r⟩ := view_lst h1
    exact .inl ⟨a, ys, rfl, .inl t, by rw [r.length]; exact hf _ H O st res_int⟩
  · obtain ⟨v, rfl, h1⟩ := viewL_one vx
    obtain ⟨a, ys, rfl, t, r⟩ := view_tup h1
    exact .inl ⟨a, ys, rfl, .inr t.sq, by rw [r.length]; exact hf _ H O st res_int⟩
  · obtain ⟨v, rfl, h1⟩ := viewL_one vx
    rw [view_str h1]
    exact .inr ⟨_, rfl, lineN hf.1, hf.2 _ H O st res_int⟩
  · exact hf.elim
abbrev rIntV : List V → Hp → VK → Prop := fun xs H Q => (∃ i, xs = [.int i] ∧ Q (.int i) H) ∨ ∃ k, xs = [.bl k] ∧ Q (.int (if k then 1 else 0)) H
theorem cv_int1 : CallV X G rIntV fInt1 := by
  intro σ hs ρ O H xs ds Q st vx hf
  unfold fInt1 at hf
  split at hf
  · obtain ⟨v, rfl, h1⟩ := viewL_one vx
    rw [view_int h1]
    exact .inl ⟨_, rfl, hf _ H O st res_int⟩
  · obtain ⟨v, rfl, h1⟩ := viewL_one vx
    rw [view_bl h1]
    exact .inr ⟨_, rfl, hf _ H O st res_int⟩
  · exact hf.elim
abbrev rAbsV : List V → Hp → VK → Prop := fun xs H Q => ∃ i, xs = [.int i] ∧ Q (.int (if i < 0 then -i else i)) H
theorem cv_abs : CallV X G rAbsV fAbs := by
  intro σ hs ρ O H xs ds Q st vx hf
  unfold fAbs at hf
  split at hf
  · obtain ⟨v, rfl, h1⟩ := viewL_one vx
    rw [view_int h1]
    exact ⟨_, rfl, hf _ H O st res_int⟩
  · exact hf.elim
abbrev rMaxV (K : PySem.W.Frag) : List V → Hp → VK → Prop := fun xs H Q => (∃ i j, xs = [.int i, .int j] ∧ Q (.int (if j > i then j else i)) H) ∨ rMax K xs H Q
abbrev rMinV (K : PySem.W.Frag) : List V → Hp → VK → Prop := fun xs H Q => (∃ i j, xs = [.int i, .int j] ∧ Q (.int (if j < i then j else i)) H) ∨ rMin K xs H Q
theorem cr_maxV (hc : X.calm = true) : CallR X (.builtin "max") (rMaxV X.K) := CallR.or (call_max2 hc) (cr_max hc)
theorem cr_minV (hc : X.calm = true) : CallR X (.builtin "min") (rMinV X.K) := CallR.or (call_min2 hc) (cr_min hc)
theorem cv_max : CallV X G (rMaxV X.K) fMax := by
  intro σ hs ρ O H xs ds Q st vx hf
  unfold fMax at hf
  split at hf
  · obtain ⟨v, w, rfl, h1, h2⟩ := viewL_two vx
    rw [view_int h1, view_int h2]
    exact .inl ⟨_, _, rfl, hf _ H O st res_int⟩
  · split at hf
    · rename_i ns e
      obtain ⟨v, rfl, h1⟩ := viewL_one vx
      obtain ⟨a, ys, rfl, t, r⟩ := view_lst h1
      rw [intsOf_eq e] at r
      rw [r.ints_eq] at t
      exact .inr ⟨a, ns, rfl, t, hf.1, fun m m1 m2 => hf.2 m m1 m2 _ H O st res_int⟩
    · exact hf.elim
  · exact hf.elim
theorem cv_min : CallV X G (rMinV X.K) fMin := by
  intro σ hs ρ O H xs ds Q st vx hf
  unfold fMin at hf
  split at hf
  · obtain ⟨v, w, rfl, h1, h2⟩ := viewL_two vx
    rw [view_int h1, view_int h2]
    exact .inl ⟨_, _, rfl, hf _ H O st res_int⟩
  · split at hf
    · rename_i ns e
      obtain ⟨v, rfl, h1⟩ := viewL_one vx
      obtain ⟨a, ys, rfl, t, r⟩ := view_lst h1
      rw [intsOf_eq e] at r
      rw [r.ints_eq] at t
      exact .inr ⟨a, ns, rfl, t, hf.1, fun m m1 m2 => hf.2 m m1 m2 _ H O st res_int⟩
    · exact hf.elim
  · exact hf.elim
abbrev rTupV (K : PySem.W.Frag) : List V → Hp → VK → Prop := fun xs H Q => ∃ p ys, xs = [.ref p] ∧ ((SqL K H p ys ∧ ∀ l, H l = none → Q (.ref l) (upd H l (.tup ys))) ∨ (SqT K H p ys ∧ Q (.ref p) H))
theorem cv_tuple : CallV X G (rTupV X.K) fTuple := by
  intro σ hs ρ O H xs ds Q st vx hf
  unfold fTuple at hf
  split at hf
  · obtain ⟨v, rfl, h1⟩ := viewL_one vx
    obtain ⟨a, ys, rfl, t, r⟩ := view_lst h1
    refine ⟨a, ys, rfl, .inl ⟨t, fun p hp => ?_⟩⟩
    obtain ⟨st', r'⟩ := st.resTup hp r
    exact hf _ _ _ st' r'
  · obtain ⟨v, rfl, h1⟩ := viewL_one vx
    obtain ⟨a, ys, rfl, t, r⟩ := view_tup h1
    exact ⟨a, ys, rfl, .inr ⟨t.sq, hf _ _ _ st (res_tup t r)⟩⟩
  · exact hf.elim
abbrev rLstV (K : PySem.W.Frag) : List V → Hp → VK → Prop := fun xs H Q => ∃ p ys, xs = [.ref p] ∧ (SqL K H p ys ∨ SqT K H p ys) ∧ ∀ l, H l = none → Q (.ref l) (upd H l (.lst ys))
theorem cv_list : CallV X G (rLstV X.K) fList := by
  intro σ hs ρ O H xs ds Q st vx hf
  unfold fList at hf
  split at hf
  · obtain ⟨v, rfl, h1⟩ := viewL_one vx
    obtain ⟨a, ys, rfl, t, r⟩ := view_lst h1
    refine ⟨a, ys, rfl, .inl t, fun p hp => ?_⟩
    obtain ⟨st', r'⟩ := st.resLst hp r
    exact hf _ _ _ st' r'
  · obtain ⟨v, rfl, h1⟩ := viewL_one vx
    obtain ⟨a, ys, rfl, t, r⟩ := view_tup h1
    refine ⟨a, ys, rfl, .inr t.sq, fun p hp => ?_⟩
    obtain ⟨st', r'⟩ := st.resLst hp r
    exact hf _ _ _ st' r'
  · exact hf.elim
theorem cv_sorted : CallV X G (rSorted X.K) fSorted := by
  intro σ hs ρ O H xs ds Q st vx hf
  unfold fSorted at hf
  split at hf
  · split at hf
    · rename_i ns e
      obtain ⟨v, rfl, h1⟩ := viewL_one vx
      obtain ⟨a, ys, rfl, t, r⟩ := view_lst h1
      rw [intsOf_eq e] at r
      rw [r.ints_eq] at t
      refine ⟨a, ns, rfl, t, hf.1, fun ms p h2 h3 hp => ?_⟩
      obtain ⟨st', r'⟩ := st.resLst (ds := ms.map D.int) hp RepL.ints
      exact hf.2 ms h2 h3 _ _ _ st' r'
    · exact hf.elim
  · exact hf.elim
theorem cv_any : CallV X G (rAny X.K) fAnyL := by
  intro σ hs ρ O H xs ds Q st vx hf
  unfold fAnyL at hf
  split at hf
  · split at hf
    · rename_i bs e
      obtain ⟨v, rfl, h1⟩ := viewL_one vx
      obtain ⟨a, ys, rfl, t, r⟩ := view_lst h1
      rw [blsOf_eq e] at r
      rw [r.bls_eq] at t
      exact ⟨a, bs, rfl, t, hf _ H O st res_bl⟩
    · exact hf.elim
  · exact hf.elim
theorem cv_all : CallV X G (rAll X.K) fAllL := by
  intro σ hs ρ O H xs ds Q st vx hf
  unfold fAllL at hf
  split at hf
  · split at hf
    · rename_i bs e
      obtain ⟨v, rfl, h1⟩ := viewL_one vx
      obtain ⟨a, ys, rfl, t, r⟩ := view_lst h1
      rw [blsOf_eq e] at r
      rw [r.bls_eq] at t
      exact ⟨a, bs, rfl, t, hf _ H O st res_bl⟩
    · exact hf.elim
  · exact hf.elim

/-! ### repr -/
def rReprV (K : PySem.W.Frag) : List V → Hp → VK → Prop := fun xs H Q => ∃ x d, xs = [x] ∧ Dp K H x d ∧ d.showable = true ∧ d.hasDict = false ∧ d.depth ≤ 64 ∧ d.shown.length ≤ sizeLine ∧ Q (.str d.shown) H
theorem cr_repr (gd : X.A.guards = some []) (hu : X.A.units + 66 < cLine) : CallR X (.builtin "repr") (rReprV X.K) := by
  intro pins s σ H xs us Q I r h
  obtain ⟨x, d, rfl, hd, hw, hn, hdep, hsz, q⟩ := h
  obtain ⟨u, rfl, ru⟩ := vals1 r
  obtain ⟨as, rd⟩ := Dp.reads I d x u hd ru
  cases rd with
  | none =>
    rw [PyData.shown_none] at q
    exact PySem.P.repr_of_none ⟨.str _, H, I.tok _, ⟨_, rfl⟩, q⟩
  | bool b =>
    rw [PyData.shown_bool] at q
    exact PySem.P.repr_of_bool ⟨.str _, H, I.tok _, ⟨_, rfl⟩, by cases b <;> exact q⟩
  | int i t =>
    rw [PyData.shown_int] at q
    unfold PyData.showable at hw
    exact PySem.P.repr_of_int (of_decide_eq_true hw) ⟨.str _, H, I.tok _, ⟨_, rfl⟩, q⟩
  | str x t =>
    rw [PyData.shown_str] at q hsz
    exact PySem.P.repr_of_str (hsz := hsz) ⟨.str _, H, I.tok _, ⟨_, rfl⟩, q⟩
  | list h1 h2 h3 h4 => exact repr_of_reads' (.list h1 h2 h3 h4) hw (PyData.noDict_hsm hn) gd (by omega) (fun _ _ e => e) (fun h' u tk hk => ⟨.str _, H, I.kept hk, ⟨_, rfl⟩, q⟩) hsz
  | tuple h1 h2 h3 h4 => exact repr_of_reads' (.tuple h1 h2 h3 h4) hw (PyData.noDict_hsm hn) gd (by omega) (fun _ _ e => e) (fun h' u tk hk => ⟨.str _, H, I.kept hk, ⟨_, rfl⟩, q⟩) hsz
  | dict h1 h2 h3 h4 h5 => simp [PyData.hasDict] at hn
end
mutual
theorem D.noDict : ∀ d : D, d.py.hasDict = false
  | .non => by simp [D.py, PyData.hasDict]
  | .bl b => by simp [D.py, PyData.hasDict]
  | .int i => by simp [D.py, PyData.hasDict]
  | .str x => by simp [D.py, PyData.hasDict]
  | .ob a => by simp [D.py, PyData.hasDict]
  | .rc _ _ _ => by simp [D.py, PyData.hasDict]
  | .tup ds => by simp only [D.py, PyData.hasDict]; exact D.noDictL ds
  | .lst ds => by simp only [D.py, PyData.hasDict]; exact D.noDictL ds
theorem D.noDictL : ∀ ds : List D, PyData.hasDictAll (D.pyL ds) = false
  | [] => by simp [D.pyL, PyData.hasDictAll]
  | d :: ds => by simp only [D.pyL, PyData.hasDictAll, D.noDict d, D.noDictL ds, Bool.or_self]
end
def D.shown (d : D) : Str := d.py.shown
mutual
/-- no number of more than hundred digits -/
def D.fits : D → Prop
  | .int i => -(10 ^ 100) < i ∧ i < 10 ^ 100
  | .tup ds => D.fitsL ds
  | .lst ds => D.fitsL ds
  | _ => True
def D.fitsL : List D → Prop
  | [] => True
  | d :: ds => d.fits ∧ D.fitsL ds
end
mutual
/-- at most as long as what repr tells -/
def D.sz : D → Nat
  | .int _ => 101
  | .str x => 10 * x.length + 2
  | .tup ds => D.szL ds + 3
  | .lst ds => D.szL ds + 2
  | _ => 5
def D.szL : List D → Nat
  | [] => 0
  | d :: ds => d.sz + 2 + D.szL ds
end
set_option exponentiation.threshold 1000 in
theorem big333 : (10 : Nat) ^ 100 ≤ 2 ^ 333 := by decide +kernel
theorem small_int {i : Int} (h : -(10 ^ 100) < i ∧ i < 10 ^ 100) : i.natAbs.log2 < 1920 := by
  have h1 : i.natAbs < 10 ^ 100 := by omega
  by_cases hz : i.natAbs = 0
  · rw [hz]; decide
  · have : i.natAbs.log2 < 333 := by
      rw [Nat.log2_lt hz]
      exact Nat.lt_of_lt_of_le h1 big333
    omega
mutual
theorem D.showable : ∀ d : D, d.fits → d.py.showable = true
  | .non, _ => by simp [D.py, PyData.showable]
  | .bl b, _ => by simp [D.py, PyData.showable]
  | .int i, h => by simp only [D.py, PyData.showable]; exact decide_eq_true (small_int (by unfold D.fits at h; exact h))
  | .str x, _ => by simp [D.py, PyData.showable]
  | .ob a, _ => by simp [D.py, PyData.showable]
  | .rc _ _ _, _ => by simp [D.py, PyData.showable]
  | .tup ds, h => by simp only [D.py, PyData.showable]; exact D.showableL ds (by unfold D.fits at h; exact h)
  | .lst ds, h => by simp only [D.py, PyData.showable]; exact D.showableL ds (by unfold D.fits at h; exact h)
theorem D.showableL : ∀ ds : List D, D.fitsL ds → PyData.showableAll (D.pyL ds) = true
  | [], _ => by simp [D.pyL, PyData.showableAll]
  | d :: ds, h => by
    unfold D.fitsL at h
    simp only [D.pyL, PyData.showableAll, D.showable d h.1, D.showableL ds h.2, Bool.and_self]
end
theorem signs_of {x : Str} (h : PyData.strOk x = true) : ∀ c ∈ x.cps.toList, c < 16 ^ 8 := fun c hc => by
  have h3 := Array.all_eq_true_iff_forall_mem.mp h c (Array.mem_toList_iff.mp hc)
  have h4 : c < 1114112 := by simpa using h3
  have e : (16 : Nat) ^ 8 = 4294967296 := by decide
  omega
theorem len_int {i : Int} (h : -(10 ^ 100) < i ∧ i < 10 ^ 100) : (Str.ofString (toString i)).length ≤ 101 := by
  by_cases hi : i < 0
  · rw [len_text_neg hi]
    have := toString_length_le (v := 0 - i) (by omega) (k := 100) (by omega) (by omega)
    omega
  · have := toString_length_le (v := i) (by omega) (k := 100) (by omega) (by omega)
    omega
theorem joined_len : ∀ ts : List Str, (Str.join ", " ts).length ≤ piled ts
  | [] => by decide
  | t :: ts => by
    have := join_length_add (t :: ts) (by simp)
    omega
mutual
theorem D.shown_len : ∀ d : D, d.plain = true → d.fits → d.py.shown.length ≤ d.sz
  | .non, _, _ => by rw [D.py, PyData.shown_none]; decide
  | .bl b, _, _ => by rw [D.py, PyData.shown_bool]; cases b <;> decide
  | .int i, _, h => by rw [D.py, PyData.shown_int, D.sz]; exact len_int (by unfold D.fits at h; exact h)
  | .str x, p, _ => by
    rw [D.py, PyData.shown_str, D.sz]
    exact StrLaws.reprText_len x (signs_of p)
  | .ob a, p, _ => by cases p
  | .rc _ _ _, p, _ => by cases p
  | .tup ds, p, h => by
    have := D.shownL_len ds p (by unfold D.fits at h; exact h)
    have j := joined_len (PyData.shownAll (D.pyL ds))
    rw [D.py, PyData.shown_tuple, D.sz, strLen_append, strLen_append]
    have e1 : ("(" : Str).length = 1 := rfl
    have e2 : ∀ b : Bool, (Str.ofString (if b = true then ",)" else ")")).length ≤ 2 := by decide
    have := e2 ((D.pyL ds).length == 1)
    omega
  | .lst ds, p, h => by
    have := D.shownL_len ds p (by unfold D.fits at h; exact h)
    have j := joined_len (PyData.shownAll (D.pyL ds))
    rw [D.py, PyData.shown_list, D.sz, strLen_append, strLen_append]
    have e1 : ("[" : Str).length = 1 := rfl
    have e2 : ("]" : Str).length = 1 := rfl
    omega
theorem D.shownL_len : ∀ ds : List D, D.plainL ds = true → D.fitsL ds → piled (PyData.shownAll (D.pyL ds)) ≤ D.szL ds
  | [], _, _ => by rw [D.pyL, PyData.shownAll_nil]; decide
  | d :: ds, p, h => by
    have p' : (d.plain && D.plainL ds) = true := p
    rw [Bool.and_eq_true] at p'
    unfold D.fitsL at h
    have h1 := D.shown_len d p'.1 h.1
    have h2 := D.shownL_len ds p'.2 h.2
    rw [D.pyL, PyData.shownAll_cons, piled_cons, D.szL]
    omega
end
/-- what repr asks -/
def D.rok (d : D) : Prop := d.ok ∧ d.fits ∧ d.sz ≤ 1000000
def fRepr : FN
  | [d], k => d.rok ∧ k (.sh (.str d.shown))
  | _, _ => False
theorem fRepr_mono : FN.Mono fRepr := by
  intro ds k k' hk h
  unfold fRepr at h ⊢
  split at h
  · exact ⟨h.1, hk _ h.2⟩
  · exact h.elim
section
variable {X : Cx} {G : Gh}
theorem cv_repr : CallV X G (rReprV X.K) fRepr := by
  intro σ hs ρ O H xs ds Q st vx hf
  unfold fRepr at hf
  split at hf
  · rename_i d
    obtain ⟨v, rfl, h1⟩ := viewL_one vx
    obtain ⟨⟨⟨p1, p2⟩, p3, p4⟩, hf⟩ := hf
    have hl := D.shown_len d p1 p3
    exact ⟨v, d.py, rfl, h1.dp p1, D.showable d p3, D.noDict d, p2, lineN (by omega), hf _ H O st res_str⟩
  · exact hf.elim
end
end Vx

namespace Vx
open PySem PySem.Spec PyProof.Rows L2

/-! ### isinstance, a built-in type -/
inductive Ty where
  | int | bool | str | tuple | list
def Ty.nm : Ty → String
  | .int => "int"
  | .bool => "bool"
  | .str => "str"
  | .tuple => "tuple"
  | .list => "list"
def D.tyn : D → String
  | .non => "NoneType"
  | .bl _ => "bool"
  | .int _ => "int"
  | .str _ => "str"
  | .tup _ => "tuple"
  | .lst _ => "list"
  | .ob _ => ""
  | .rc _ _ _ => ""
def D.isa : Ty → D → Bool
  | .int, .int _ => true
  | .int, .bl _ => true
  | .bool, .bl _ => true
  | .str, .str _ => true
  | .tuple, .tup _ => true
  | .list, .lst _ => true
  | _, _ => false
def D.noOb : D → Bool
  | .ob _ => false
  | .rc _ _ _ => false
  | _ => true
def fIsi (t : Ty) : F1 := fun d k => d.noOb = true ∧ k (.sh (.bl (d.isa t)))
theorem fIsi_mono {t : Ty} : F1.Mono (fIsi t) := fun d k k' hk h => ⟨h.1, hk _ h.2⟩
theorem kit_isa (t : Ty) (d : D) (h : d.noOb = true) : kitB d.tyn t.nm = some (d.isa t) := by
  cases d with
  | ob a => cases h
  | rc _ _ _ => cases h
  | non =>
    cases t
    · exact (by decide +kernel : kitB "NoneType" "int" = some false)
    · exact (by decide +kernel : kitB "NoneType" "bool" = some false)
    · exact (by decide +kernel : kitB "NoneType" "str" = some false)
    · exact (by decide +kernel : kitB "NoneType" "tuple" = some false)
    · exact (by decide +kernel : kitB "NoneType" "list" = some false)
  | bl b =>
    cases t
    · exact (by decide +kernel : kitB "bool" "int" = some true)
    · exact (by decide +kernel : kitB "bool" "bool" = some true)
    · exact (by decide +kernel : kitB "bool" "str" = some false)
    · exact (by decide +kernel : kitB "bool" "tuple" = some false)
    · exact (by decide +kernel : kitB "bool" "list" = some false)
  | int i =>
    cases t
    · exact (by decide +kernel : kitB "int" "int" = some true)
    · exact (by decide +kernel : kitB "int" "bool" = some false)
    · exact (by decide +kernel : kitB "int" "str" = some false)
    · exact (by decide +kernel : kitB "int" "tuple" = some false)
    · exact (by decide +kernel : kitB "int" "list" = some false)
  | str x =>
    cases t
    · exact (by decide +kernel : kitB "str" "int" = some false)
    · exact (by decide +kernel : kitB "str" "bool" = some false)
    · exact (by decide +kernel : kitB "str" "str" = some true)
    · exact (by decide +kernel : kitB "str" "tuple" = some false)
    · exact (by decide +kernel : kitB "str" "list" = some false)
  | tup ds =>
    cases t
    · exact (by decide +kernel : kitB "tuple" "int" = some false)
    · exact (by decide +kernel : kitB "tuple" "bool" = some false)
    · exact (by decide +kernel : kitB "tuple" "str" = some false)
    · exact (by decide +kernel : kitB "tuple" "tuple" = some true)
    · exact (by decide +kernel : kitB "tuple" "list" = some false)
  | lst ds =>
    cases t
    · exact (by decide +kernel : kitB "list" "int" = some false)
    · exact (by decide +kernel : kitB "list" "bool" = some false)
    · exact (by decide +kernel : kitB "list" "str" = some false)
    · exact (by decide +kernel : kitB "list" "tuple" = some false)
    · exact (by decide +kernel : kitB "list" "list" = some true)
theorem view_ty {K : PySem.W.Frag} {O : Own} {H : Hp} {d : D} {v : V} (h : View K O H d v) (hd : d.noOb = true) : TyX K H v (.type d.tyn) := by
  cases d with
  | ob a => cases hd
  | rc _ _ _ => cases hd
  | non => rw [view_non h]; exact .base .non
  | bl b => rw [view_bl h]; exact .base (.bl b)
  | int i => rw [view_int h]; exact .base (.int i)
  | str x => rw [view_str h]; exact .base (.str x)
  | tup ds =>
    obtain ⟨a, xs, rfl, t, r⟩ := view_tup h
    rcases t with ⟨t | ⟨o, t⟩, _⟩ | ⟨o, its, n, e1, e2, _⟩
    · exact .base (.tup t)
    · exact .fTuple t
    · exact .kTuple e1 e2
  | lst ds =>
    obtain ⟨a, xs, rfl, t, r⟩ := view_lst h
    rcases t with (t | ⟨o, t⟩) | ⟨o, its, n, e1, e2, _⟩
    · exact .base (.lst t)
    · exact .base (.frz t)
    · exact .kList e1 e2
section
variable {X : Cx} {G : Gh} {We : Hd → WxV} {a : Expr} {p : OpP} {p0 p2 pos : Pos}
theorem ve_isi (t : Ty) {x : Str} (hg : Gl X "isinstance") (hm : X.mg "isinstance" = none) (gx : Gl X x) (mx : X.mg x = none) (bx : bootBuiltins x = some (.type t.nm)) (ha : VO X G a p) (hn : x ≠ "__name__" := by decide) (hdx : (x == ("__debug__" : Str)) = false := by decide)
    (hs : starEach [a, .Name x p2] X.env = [(false, eval a X.env), (false, eval (.Name x p2) X.env)] := by rfl) (hs2 : starEach [.Name x p2] X.env = [(false, eval (.Name x p2) X.env)] := by rfl) :
    VE X G (.Call (.Name "isinstance" p0) [a, .Name x p2] [] pos) (vUn (fIsi t) p) := by
  refine ⟨vUn_mono fIsi_mono ha.mono, fun We tk => ?_⟩
  have hty : PE X (.Name x p2) (tC (.ty t.nm)) := ⟨fun pins s σ H Q I z => ld_blt I gx mx bx ⟨.ty t.nm, H, I, rfl, z⟩ hn hdx⟩
  refine (pe_callB call_isi hg hm (by decide +kernel) (pa_cons (ha.run We tk) (pa_cons hty pa_nil hs2) hs) (by decide) (by decide) hs (by rw [hs2]; rfl)).weak fun σ H Q ⟨hs, ρ, O, st, z⟩ => ?_
  refine ⟨hs, ρ, O, st, ha.mono ρ _ _ _ _ (fun av r z v H1 O1 st1 rv => ?_) (fun _ _ _ w => w) z⟩
  split at z
  · rename_i d hd
    have vw := st1.view rv hd
    exact ⟨v, .ty t.nm, _, _, _, rfl, .ty _, view_ty vw z.1, kit_ty (kit_isa t d z.1), z.2 _ H1 O1 st1 res_bl⟩
  · exact z.elim

/-! ### raise -/
def vsRaise (c : Str) : PSv := fun ρ D => D.ex c none ρ
theorem vs_raise {x m : Str} {j : Nat} {p1 p3 : Pos} (hc : X.calm = true) (q : (He.Fa.exc x).ok X.K = true) (gC : X.mg x = some (.ref (He.ga X.K x))) (hg : Gl X x) (hdb : (x == ("__debug__" : Str)) = false := by decide) :
    VS X G (.Raise (some (.Call (.Name x p0) [.Constant (.str m) j p2] [] p1)) none p3) (vsRaise x) := by
  obtain ⟨e1, e2, e3, e4⟩ := He.exc_ok q
  refine ⟨fun ρ D D' hl z => hl.ex _ _ _ z, fun We tk => (ps_raise hc tk.tk (pmk_own PySem.F.excBase_ValueError e1 gC e2 (raises_own e3 e4) hg hdb)).weak fun D σ H ⟨hs, ρ, O, st, z⟩ => ?_⟩
  exact ⟨hs, ρ, O, x, none, rfl, st, rfl, z⟩
end
end Vx

namespace Vx
open PySem PySem.Spec PyProof.Rows L2

/-! ### the module's constants -/
mutual
def conB (K : PySem.W.Frag) : D → Value → Bool
  | .non, .none => true
  | .bl b, .bool c => b == c
  | .int i, .int j _ => decide (i = j)
  | .str x, .str y _ => decide (x = y)
  | .tup ds, .ref a => (match K.lookup a with
    | some ⟨.type c, _, .seq its _, _⟩ => decide (c = "tuple") && (decide (its.size ≤ sizeLine) && conL K ds its.toList)
    | _ => false)
  | _, _ => false
def conL (K : PySem.W.Frag) : List D → List Value → Bool
  | [], [] => true
  | d :: ds, u :: us => conB K d u && conL K ds us
  | _, _ => false
end
mutual
theorem conB_ok {K : PySem.W.Frag} : ∀ (d : D) (u : Value), conB K d u = true → ∃ v, RelV v u ∧ ∀ O H, Rep K O H d v
  | .non, u, h => by
    cases u with
    | none => exact ⟨.non, rfl, fun _ _ => rep_non.mpr rfl⟩
    | _ => simp [conB] at h
  | .bl b, u, h => by
    cases u with
    | bool c =>
      have e : b = c := by simpa [conB] using h
      subst e
      exact ⟨.bl b, rfl, fun _ _ => rep_bl.mpr rfl⟩
    | _ => simp [conB] at h
  | .int i, u, h => by
    cases u with
    | int j t =>
      have e : i = j := by simpa [conB] using h
      subst e
      exact ⟨.int i, ⟨t, rfl⟩, fun _ _ => rep_int.mpr rfl⟩
    | _ => simp [conB] at h
  | .str x, u, h => by
    cases u with
    | str y t =>
      have e : x = y := by simpa [conB] using h
      subst e
      exact ⟨.str x, ⟨t, rfl⟩, fun _ _ => rep_str.mpr rfl⟩
    | _ => simp [conB] at h
  | .tup ds, u, h => by
    cases u with
    | ref a =>
      unfold conB at h
      split at h
      · rename_i c od its n sl lk
        rw [Bool.and_eq_true, Bool.and_eq_true, decide_eq_true_eq, decide_eq_true_eq] at h
        obtain ⟨rfl, h2, h3⟩ := h
        obtain ⟨xs, vs, rr⟩ := conL_ok ds its.toList h3
        exact ⟨.ref a, rfl, fun O H => rep_tup.mpr ⟨a, xs, rfl, .inr ⟨_, its, n, lk, rfl, rfl, h2, vs⟩, rr O H⟩⟩
      · cases h
    | _ => simp [conB] at h
  | .lst ds, u, h => by simp [conB] at h
  | .ob a, u, h => by simp [conB] at h
  | .rc _ _ _, u, h => by simp [conB] at h
theorem conL_ok {K : PySem.W.Frag} : ∀ (ds : List D) (us : List Value), conL K ds us = true → ∃ xs, Vals xs us ∧ ∀ O H, RepL K O H ds xs
  | [], us, h => by
    cases us with
    | nil => exact ⟨[], .nil, fun _ _ => repL_nil.mpr rfl⟩
    | cons u us => simp [conL] at h
  | d :: ds, us, h => by
    cases us with
    | nil => simp [conL] at h
    | cons u us =>
      unfold conL at h
      rw [Bool.and_eq_true] at h
      obtain ⟨v, h1, h2⟩ := conB_ok d u h.1
      obtain ⟨xs, h3, h4⟩ := conL_ok ds us h.2
      exact ⟨v :: xs, .cons h1 h3, fun O H => repL_cons.mpr ⟨v, xs, rfl, h2 O H, h4 O H⟩⟩
end
/-- the module's name x is d -/
def conG (K : PySem.W.Frag) (x : Str) (d : D) : Bool := match PySem.W.nsIn K mainGlobals x with
  | some (some u) => conB K d u
  | _ => false
/-- a name of the module that stands for d -/
def Con (K : PySem.W.Frag) (mg : Str → Option Value) (x : Str) (d : D) : Prop := ∃ u v, mg x = some u ∧ RelV v u ∧ ∀ O H, Rep K O H d v
theorem conG_ok {K : PySem.W.Frag} {h : Heap} {mg : Str → Option Value} {x : Str} {d : D} (inK : K.In h) (ns : h.Ns mainGlobals mg) (e : conG K x d = true) : Con K mg x d := by
  unfold conG at e
  split at e
  · rename_i u hu
    obtain ⟨v, h1, h2⟩ := conB_ok d u e
    exact ⟨u, v, PySem.W.mg_of inK ns hu, h1, h2⟩
  · cases e
theorem ve_con {X : Cx} {G : Gh} {x : Str} {d : D} {pos : Pos} (c : Con X.K X.mg x d) (hg : Gl X x) (hd : (x == ("__debug__" : Str)) = false := by decide) : VE X G (.Name x pos) (vC d) := by
  obtain ⟨u, v, h1, h2, h3⟩ := c
  exact ve_glob hg h1 h2 h3 hd

/-! ### the head's facts -/
abbrev AlX : Type := Bool × List He.FnW
def obsX (fa : List He.Fa) (cs : List (Str × D)) (fn : List He.DefD) (K : PySem.W.Frag) : AlX := ((fa.all fun f => f.ok K) && (cs.all fun c => conG K c.1 c.2) && fn.all fun d => d.ok K, fn.map fun d => He.fnW K d.at_)
def valX (fn : List He.DefD) : AlX := (true, fn.map He.DefD.val)
def SaysX (fa : List He.Fa) (cs : List (Str × D)) (fn : List He.DefD) (K : PySem.W.Frag) : Prop := obsX fa cs fn K = valX fn
def obsXG (n : Nat) (fa : List He.Fa) (cs : List (Str × D)) (fn : List He.DefD) (g : Addr → Option Obj) : AlX := obsX fa cs fn (He.frG g (He.asD g n))
def hookX (n : Nat) (fa : List He.Fa) (cs : List (Str × D)) (fn : List He.DefD) : PySem.W.Hook where
  α := AlX
  val := fun _ => valX fn
  obs := fun s => obsXG n fa cs fn s.heap.get?
  says := fun _ h => ∃ K : PySem.W.Frag, K.In h ∧ SaysX fa cs fn K
  keeps := fun _ _ _ ⟨K, inK, c⟩ k => ⟨K, PySem.W.Frag.In.keeps inK k, c⟩
  of := fun _ _ e => ⟨_, He.frG_in, e⟩
theorem obsXG_eq {n : Nat} {fa : List He.Fa} {cs : List (Str × D)} {fn : List He.DefD} {g : Addr → Option Obj} {s : Shared} (h : ∀ a, g a = s.heap.get? a) : obsXG n fa cs fn g = (hookX n fa cs fn).obs s := by
  have e : g = s.heap.get? := funext h
  subst e
  rfl
section
variable {fa : List He.Fa} {cs : List (Str × D)} {fn : List He.DefD} {K : PySem.W.Frag}
theorem SaysX.all (c : SaysX fa cs fn K) : (fa.all fun f => f.ok K) = true ∧ (cs.all fun c => conG K c.1 c.2) = true ∧ (fn.all fun d => d.ok K) = true := by
  have z : ((fa.all fun f => f.ok K) && (cs.all fun c => conG K c.1 c.2) && fn.all fun d => d.ok K) = true := congrArg Prod.fst c
  rw [Bool.and_eq_true, Bool.and_eq_true] at z
  exact ⟨z.1.1, z.1.2, z.2⟩
theorem SaysX.fact (c : SaysX fa cs fn K) (i : Nat) {f : He.Fa} (h : fa[i]? = some f := by rfl) : f.ok K = true := List.all_eq_true.mp c.all.1 f (List.mem_of_getElem? h)
theorem SaysX.con (c : SaysX fa cs fn K) (i : Nat) {q : Str × D} (h : cs[i]? = some q := by rfl) : conG K q.1 q.2 = true := List.all_eq_true.mp c.all.2.1 q (List.mem_of_getElem? h)
theorem SaysX.fun_ (c : SaysX fa cs fn K) (i : Nat) {d : He.DefD} (h : fn[i]? = some d := by rfl) : ∃ fd, FunD K d.name d.qual d.params d.body d.scope (d.dvs K) (d.kws K) (He.fAd K d.at_) fd := by
  have z : (fn.map fun d => He.fnW K d.at_)[i]? = (fn.map He.DefD.val)[i]? := by rw [show (fn.map fun d => He.fnW K d.at_) = fn.map He.DefD.val from congrArg Prod.snd c]
  rw [List.getElem?_map, List.getElem?_map, h] at z
  exact He.DefD.funD (Option.some.inj z) (List.all_eq_true.mp c.all.2.2 d (List.mem_of_getElem? h))
end

/-! ### whatever is gone through -/
theorem PI_or {X : Cx} {tg e : Expr} {w1 w2 : TI} (h1 : PI X tg e w1) (h2 : PI X tg e w2) : PI X tg e fun σ H R => w1 σ H R ∨ w2 σ H R := ⟨fun pins s σ H R I h => h.elim (h1.run pins s σ H R I) (h2.run pins s σ H R I)⟩
/-- a list or a tuple; a slot's own list stands still from here -/
def srcV (p : PEv) : PSrc := fun ρ k W => p ρ (fun sv r => match sv.fz with
  | .lst ds => k ds r
  | .tup ds => k ds r
  | _ => False) W
/-- a name: a list lent to be read, too -/
def srcN (i : Nat) : PSrc := fun ρ k _ => vRd i ρ fun sv => match sv with
  | .sh (.lst ds) => k ds ρ
  | .sh (.tup ds) => k ds ρ
  | .ow ds => k ds (ρ.set i (some (.sh (.lst ds))))
  | .bo ds => k ds ρ
  | _ => False
def iSeq (K : PySem.W.Frag) (tl : TE) : TI := fun σ H R => tl σ H fun x H1 => ∃ a, x = .ref a ∧ (((∃ xs, SqL K H1 a xs) ∧ R (Itl K a) H1) ∨ ((∃ xs, SqT K H1 a xs) ∧ R (Itt K a) H1))
section
variable {X : Cx} {G : Gh} {tg iter : Expr}
theorem pi_seq {tl : TE} (hl : PE X iter tl) : PI X tg iter (iSeq X.K tl) := by
  refine ⟨fun pins s σ H R I want => thn (hl.run pins s σ H _ I want) fun v s1 h => ?_⟩
  obtain ⟨x, H1, I1, rx, a, ex, q⟩ := h
  subst ex
  have rx' : v = .ref a := rx
  subst rx'
  have fp_ok : ∀ b ∈ [s1.heap.objs.size], FpOk X pins H1 b := fun b hb => by
    rw [List.mem_singleton.mp hb]
    exact I1.fpOk (Nat.le_refl _) (I1.hok.fresh (Nat.le_refl _))
  rcases q with ⟨⟨xs, hq⟩, q⟩ | ⟨⟨xs, hq⟩, q⟩
  · obtain ⟨its, _, p, _⟩ := I1.list hq
    exact wpAny_pyIter_list p.isList ⟨_, _, _, _, H1, rfl, I1.kept (t' := s1.toks) fun b o e => Heap.get?_push_of_some _ e, turn_list a _, ⟨_, Heap.get?_push_size _ rfl, rfl, rfl⟩, fp_ok, q⟩
  · obtain ⟨its, _, p, _⟩ := I1.tuple hq
    have p' : s1.heap.IsTuple a its.toArray := p
    exact wpAny_pyIter_tuple p' ⟨_, _, _, _, H1, rfl, I1.kept (t' := s1.toks) fun b o e => Heap.get?_push_of_some _ e, turn_tuple a _, ⟨_, Heap.get?_push_size _ rfl, rfl, rfl⟩, fp_ok, q⟩
theorem itR_l {K : PySem.W.Frag} {hs : Hd} {σ0 : L2.St} {a : Addr} {ds : List D} (hm : ∀ (hs2 : Hd) (ρ : Env) (σ : L2.St) (H : Hp) (O : Own), (∀ p, p ∈ hs → p ∈ hs2) → StR G K hs2 σ H ρ O → ∃ xs, SqL K H a xs ∧ RepL K O H ds xs) : ItR G K hs σ0 (Itl K a) ds := by
  intro hs2 i ρ σ H O sub st
  obtain ⟨xs, t, r⟩ := hm hs2 ρ σ H O sub st
  refine ⟨fun hle => ⟨xs, t, by rw [r.length]; exact hle⟩, fun d hd => ?_⟩
  obtain ⟨x, hx, rx⟩ := r.get hd
  refine ⟨⟨xs, x, t, hx⟩, fun y H' hy => ?_⟩
  obtain ⟨rfl, hy⟩ := hy
  have e := hy xs t
  rw [hx] at e
  cases e
  exact ⟨O, st, rx⟩
theorem itR_t {K : PySem.W.Frag} {hs : Hd} {σ0 : L2.St} {a : Addr} {ds : List D} (hm : ∀ (hs2 : Hd) (ρ : Env) (σ : L2.St) (H : Hp) (O : Own), (∀ p, p ∈ hs → p ∈ hs2) → StR G K hs2 σ H ρ O → ∃ xs, SqT K H a xs ∧ RepL K O H ds xs) : ItR G K hs σ0 (Itt K a) ds := by
  intro hs2 i ρ σ H O sub st
  obtain ⟨xs, t, r⟩ := hm hs2 ρ σ H O sub st
  refine ⟨fun hle => ⟨xs, t, by rw [r.length]; exact hle⟩, fun d hd => ?_⟩
  obtain ⟨x, hx, rx⟩ := r.get hd
  refine ⟨⟨xs, x, t, hx⟩, fun y H' hy => ?_⟩
  obtain ⟨rfl, hy⟩ := hy
  have e := hy xs t
  rw [hx] at e
  cases e
  exact ⟨O, st, rx⟩
theorem held_l {K : PySem.W.Frag} {hs : Hd} {a : Addr} {ds : List D} (hm : HdI.val (.lst ds) (.ref a) ∈ hs) : ∀ (hs2 : Hd) (ρ : Env) (σ : L2.St) (H : Hp) (O : Own), (∀ p, p ∈ hs → p ∈ hs2) → StR G K hs2 σ H ρ O → ∃ xs, SqL K H a xs ∧ RepL K O H ds xs := fun hs2 ρ σ H O sub st => by
  obtain ⟨b, xs, e, t, r⟩ := rep_lst.mp (st.held _ _ (sub _ hm))
  cases e
  exact ⟨xs, t.sq, r⟩
theorem held_t {K : PySem.W.Frag} {hs : Hd} {a : Addr} {ds : List D} (hm : HdI.val (.tup ds) (.ref a) ∈ hs) : ∀ (hs2 : Hd) (ρ : Env) (σ : L2.St) (H : Hp) (O : Own), (∀ p, p ∈ hs → p ∈ hs2) → StR G K hs2 σ H ρ O → ∃ xs, SqT K H a xs ∧ RepL K O H ds xs := fun hs2 ρ σ H O sub st => by
  obtain ⟨b, xs, e, t, r⟩ := rep_tup.mp (st.held _ _ (sub _ hm))
  cases e
  exact ⟨xs, t.sq, r⟩
theorem vi_val {pe : PEv} (h : VE X G iter pe) : VI X G tg iter (srcV pe) := by
  refine ⟨fun ρ k k' W W' hk hW z => h.mono ρ _ _ _ _ (fun sv r z => ?_) hW z, fun We tk => ⟨_, pi_seq (h.run We tk), fun σ H R ⟨hs, ρ, O, st, z⟩ => ?_⟩⟩
  · split at z
    · exact hk _ _ z
    · exact hk _ _ z
    · exact z.elim
  · refine ⟨hs, ρ, O, st, h.mono ρ _ _ _ _ (fun sv r z v H1 O1 st1 rv => ?_) (fun _ _ _ w => w) z⟩
    obtain ⟨O2, st2, _, rv2⟩ := ResR.freeze st1 rv
    split at z
    · rename_i ds hds
      rw [hds] at rv2
      obtain ⟨a, xs, rfl, t, rr⟩ := rep_lst.mp rv2
      exact ⟨a, rfl, .inl ⟨⟨xs, t.sq⟩, z _ H1 _ O2 (fun p hp => List.mem_cons_of_mem _ hp) (st2.hold rv2) (itR_l (held_l List.mem_cons_self))⟩⟩
    · rename_i ds hds
      rw [hds] at rv2
      obtain ⟨a, xs, rfl, t, rr⟩ := rep_tup.mp rv2
      exact ⟨a, rfl, .inr ⟨⟨xs, t.sq⟩, z _ H1 _ O2 (fun p hp => List.mem_cons_of_mem _ hp) (st2.hold rv2) (itR_t (held_t List.mem_cons_self))⟩⟩
    · exact z.elim
/-- what is held of a list that is lent to be read, as data -/
theorem bo_all {K : PySem.W.Frag} {hs : Hd} {σ0 : L2.St} {H0 : Hp} {ρ0 : Env} {O0 : Own} {i : Nat} {ds : List D} {a : Addr} {xs : List V} (st0 : StR G K hs σ0 H0 ρ0 O0) (b : BoR G K H0 a xs) (r : RepL K O0 H0 ds xs) :
    ∃ hs1, (∀ p, p ∈ hs → p ∈ hs1) ∧ StR G K hs1 σ0 H0 ρ0 O0 ∧ ∀ (hs2 : Hd) (ρ : Env) (σ : L2.St) (H : Hp) (O : Own), (∀ p, p ∈ hs1 → p ∈ hs2) → StR G K hs2 σ H ρ O → ∃ xs, SqL K H a xs ∧ RepL K O H ds xs := by
  refine ⟨zipV ds xs ++ hs, fun p hp => List.mem_append_right _ hp, st0.holdL r, fun hs2 ρ σ H O sub st => ⟨xs, ?_, st.heldL r.length fun p hp => sub p (List.mem_append_left _ hp)⟩⟩
  rcases b with ⟨b, n⟩ | b
  · cases e0 : G.H0 a with
    | none => exact absurd (.inl e0) n
    | some o =>
      have nm : ¬ G.M a := fun z => n (.inr z)
      have e1 := st0.keep a o e0 nm
      have e2 := st.keep a o e0 nm
      rcases b with b | ⟨o1, b⟩
      · rw [e1] at b
        cases b
        exact .inl (.inl e2)
      · rw [e1] at b
        cases b
        exact .inl (.inr ⟨o1, e2⟩)
  · exact .inr b
theorem srcN_mono {i : Nat} : SrcMono (srcN i) := fun ρ k k' W W' hk _ z => vRd_mono (fun sv z => by
  cases sv with
  | sh d => cases d with
    | lst ds => exact hk _ _ z
    | tup ds => exact hk _ _ z
    | _ => exact z
  | ow ds => exact hk _ _ z
  | bo ds => exact hk _ _ z
  | dc a kvs => exact z
  | mu ds => exact z) z
theorem vi_nm {i : Nat} (h : PE X iter (tVar i)) : VI X G tg iter (srcN i) := by
  refine ⟨srcN_mono, fun We tk => ⟨_, pi_seq h, fun σ H R ⟨hs, ρ, O, st, z⟩ => ?_⟩⟩
  obtain ⟨sv, hsv, z⟩ := vRd_some z
  cases sv with
  | sh d =>
    obtain ⟨v, e1, r⟩ := st.slot i _ hsv
    have r' : Rep X.K O H d v := r
    cases d with
    | lst ds =>
      obtain ⟨a, xs, rfl, t, rr⟩ := rep_lst.mp r'
      exact ⟨_, e1, a, rfl, .inl ⟨⟨xs, t.sq⟩, z _ H _ O (fun p hp => List.mem_cons_of_mem _ hp) (st.hold r') (itR_l (held_l List.mem_cons_self))⟩⟩
    | tup ds =>
      obtain ⟨a, xs, rfl, t, rr⟩ := rep_tup.mp r'
      exact ⟨_, e1, a, rfl, .inr ⟨⟨xs, t.sq⟩, z _ H _ O (fun p hp => List.mem_cons_of_mem _ hp) (st.hold r') (itR_t (held_t List.mem_cons_self))⟩⟩
    | non => exact z.elim
    | bl b => exact z.elim
    | int j => exact z.elim
    | str x => exact z.elim
    | ob a => exact z.elim
    | rc _ _ _ => exact z.elim
  | ow ds =>
    obtain ⟨v, O', e1, st', r⟩ := st.freezeSlot hsv
    obtain ⟨a, xs, rfl, t, rr⟩ := rep_lst.mp (show Rep X.K O' H (.lst ds) v from r)
    exact ⟨_, e1, a, rfl, .inl ⟨⟨xs, t.sq⟩, z _ H _ O' (fun p hp => List.mem_cons_of_mem _ hp) (st'.hold r) (itR_l (held_l List.mem_cons_self))⟩⟩
  | bo ds =>
    obtain ⟨v, e1, r⟩ := st.slot i _ hsv
    obtain ⟨a, xs, rfl, b, rr⟩ := r
    obtain ⟨hs1, sub, st1, al⟩ := bo_all (i := i) st b rr
    exact ⟨_, e1, a, rfl, .inl ⟨⟨xs, b.sq⟩, z _ H hs1 O sub st1 (itR_l al)⟩⟩
  | mu ds => exact z.elim
  | dc a kvs => exact z.elim
end
end Vx

namespace Vx
open PySem PySem.Spec PyProof.Rows L2

/-! ### a def, once more: its monotony by its own derivation -/
def sh0 : Shared := {}
theorem room0 {k : Nat} (hk : k ≤ 40) (e : PySem.Env) : Room k (Around.deeper { guards := some [] } e) := by
  refine ⟨rfl, ?_, ?_⟩
  · have h : 200 < recursionLimit := by decide
    show 0 + 1 + 3 * k + 5 < recursionLimit
    omega
  · have h : 1000 < cLine := by decide
    show 1 + 3 + 16 * k + 200 < cLine
    omega
section
variable {P : Program} {w : World} {K : PySem.W.Frag} {mg : Str → Option Value} {base : Heap}
theorem fnv_by {x qual : Str} {params : Arguments} {body : List Stmt} {scope : Scope} {dvs : List V} {kws : List (Str × V)} {f : Addr} {fd : FuncData} {N ps : List Str} {k : Nat} {p : PSv} (F : FunD K x qual params body scope dvs kws f fd) (S : FnScope N ps scope) (hk : k ≤ 40)
    (hbody : ∀ (cdv : Value) (A : Around) (outer : List PySem.Env) (s : Shared) (H : Hp) (E : XK) (G : Gh), A.guards = some [] → Room k (A.deeper (envOfC qual scope s.heap.objs.size f cdv)) →
      VSs (cxOf (L2.CX P w) P w K mg base N qual scope f cdv A outer s H E) G body p) : FnV P w K mg base (k + 1) f fd ps (fnRun ps.length N.length p) :=
  fnv_mk F S (hbody .none { guards := some [] } [] sh0 (fun _ => none) (fun _ _ _ => False) ⟨fun _ => none, fun _ => False, fun _ => none⟩ rfl (room0 hk _)).mono hbody
theorem bndG0 {x qual : Str} {params : Arguments} {body : List Stmt} {scope : Scope} {kws : List (Str × V)} {f : Addr} {fd : FuncData} {ps ks : List Str} {n : Nat} {ix : List Nat} (F : FunD K x qual params body scope [] kws f fd)
    (h : ∀ (kV doc pm : Value) (an : Option Addr) (cdv ct : Value) (us ws : List Value), us.length = n → ws.length = ks.length → bindArgs (PySem.W.fnOf x qual params body scope .none kV doc pm an cdv ct) ⟨us, ks.zip ws⟩ = pure (ps.zip (sel ix (us ++ ws)))) : BndG K fd ps n ks ix [] := by
  obtain ⟨oc, od, dV, kV, doc, pm, an, cdv, ct, osl, rfl, lk, hcd, hD, hK⟩ := F.ex
  rcases hD with ⟨_, rfl⟩ | ⟨e, _⟩
  · refine ⟨[], .nil, fun s us ws X l1 l2 => ?_⟩
    rw [List.append_nil]
    exact .of_eq (h kV doc pm an cdv ct us ws l1 l2)
  · exact absurd rfl e
theorem bndGD {x qual : Str} {params : Arguments} {body : List Stmt} {scope : Scope} {dvs : List V} {kws : List (Str × V)} {f : Addr} {fd : FuncData} {ps ks : List Str} {n : Nat} {ix : List Nat} (hd : dvs ≠ []) (F : FunD K x qual params body scope dvs kws f fd)
    (h : ∀ (T : Addr) (kV doc pm : Value) (an : Option Addr) (cdv ct : Value) (us its ws : List Value), us.length = n → its.length = dvs.length → ws.length = ks.length →
      ∃ k, bindArgs (PySem.W.fnOf x qual params body scope (.ref T) kV doc pm an cdv ct) ⟨us, ks.zip ws⟩ = seqItems? (.ref T) >>= k ∧ k (some its.toArray) = pure (ps.zip (sel ix (us ++ ws ++ its)))) : BndG K fd ps n ks ix dvs := by
  obtain ⟨oc, od, dV, kV, doc, pm, an, cdv, ct, osl, rfl, lk, hcd, hD, hK⟩ := F.ex
  rcases hD with ⟨e, _⟩ | ⟨_, T, o, its, m, rfl, lT, oT, rT⟩
  · exact absurd e hd
  · refine ⟨its, rT, fun s us ws X l1 l2 => ?_⟩
    obtain ⟨k, e1, e2⟩ := h T kV doc pm an cdv ct us its ws l1 rT.length.symm l2
    refine BindsTo.of_looks fun M => ?_
    rw [e1]
    exact looks_items X lT oT (.of_pure e2)
end

/-! ### three names at once -/
def vsPar3 (i j l : Nat) (ps : List PEv) : PSv := fun ρ D => vVals ps ρ (fun ds r => match ds with
  | [d, e, g] => D.nx (((r.set i (some (.sh d))).set j (some (.sh e))).set l (some (.sh g)))
  | _ => False) D.ex
section
variable {X : Cx} {G : Gh}
theorem vs_par3 {i j l : Nat} {x y z : Str} {a b c : Expr} {ps : List PEv} {px py pz pt pos : Pos} {kt k2 pt2} (hc : X.calm = true) (hN : X.N.Nodup) (hi : X.N[i]? = some x) (hj : X.N[j]? = some y) (hl : X.N[l]? = some z) (hij : i ≠ j) (hil : i ≠ l) (hjl : j ≠ l)
    (hx : X.env.scope.names.lookup x = some .local) (hy : X.env.scope.names.lookup y = some .local) (hz : X.env.scope.names.lookup z = some .local) (ha : VL X G [a, b, c] ps)
    (hw : swappedStores [.Tuple [.Name x px, .Name y py, .Name z pz] kt pt] (.Tuple [a, b, c] k2 pt2) X.env = pure (some [x, y, z]))
    (hs : swapsWithSole [.Tuple [.Name x px, .Name y py, .Name z pz] kt pt] (.Tuple [a, b, c] k2 pt2) pos.line X.env = pure false := by rfl) :
    VS X G (.Assign [.Tuple [.Name x px, .Name y py, .Name z pz] kt pt] (.Tuple [a, b, c] k2 pt2) pos) (vsPar3 i j l ps) := by
  refine ⟨fun ρ D D' hle z => ha.mono ρ _ _ _ _ (fun ds r z => ?_) hle.ex z, fun We tk => (ps_par3 hc hN hi hj hl hij hil hjl hx hy hz (ha.run We tk) hw hs).weak fun D σ H ⟨hs, ρ, O, st, z⟩ => ⟨hs, ρ, O, st, ha.mono ρ _ _ _ _ (fun ds r z vs H' O' st' rv => ?_) (fun _ _ _ w => w) z⟩⟩
  · split at z
    · exact hle.nx _ z
    · exact z.elim
  · split at z
    · obtain ⟨v, vs1, rfl, r1, rr⟩ := repL_cons.mp rv
      obtain ⟨u, vs2, rfl, r2, rr⟩ := repL_cons.mp rr
      obtain ⟨q, vs3, rfl, r3, rr⟩ := repL_cons.mp rr
      rw [repL_nil.mp rr]
      refine ⟨v, u, q, rfl, z _ H' O' ?_⟩
      exact ((st'.set (sv := .sh _) r1).set (sv := .sh _) r2).set (sv := .sh _) r3
    · exact z.elim
end

/-! ### comprehensions, their monotony by their parts -/
section
variable {X : Cx} {G : Gh} {elt tg iter : Expr} {ifs : List Expr} {scope : Scope} {own : List (Str × Nat)} {pos : Pos} {src : PSrc} {g : PGv} {tt : PTv} {pe : PEv} {is : List Nat}
theorem ve_lcm (hc : X.calm = true) (hN : X.N.Nodup) (hi : VI X G tg iter src) (ok : BlkOk X.N X.env.scope scope own)
    (hg : ∀ (s : Shared) (H : Hp) (C : Addr) (cl : List (Str × Addr)) (fp : List Addr), VG (X.blk s H scope (compEnvC scope cl C X.env) fp) G tg g is) (his : ∀ i, i ∈ is → i ∈ own.map (·.2))
    (ht : ∀ (s : Shared) (H : Hp) (C : Addr) (cl : List (Str × Addr)) (fp : List Addr), VTs (X.blk s H scope (compEnvC scope cl C X.env) fp) G ifs tt)
    (he : ∀ (s : Shared) (H : Hp) (C : Addr) (cl : List (Str × Addr)) (fp : List Addr), VE (X.blk s H scope (compEnvC scope cl C X.env) fp) G elt pe) (hs : ∀ x, foldedSetIterable iter X.env x = pure x := by intro _; rfl) :
    VE X G (.ListComp elt [⟨tg, iter, ifs, 0⟩] scope pos) (vLc (own.map (·.2)) src g tt pe) :=
  ve_lc hc hN hi ok hg his ht he (hg sh0 (fun _ => none) 0 [] []).mono (ht sh0 (fun _ => none) 0 [] []).mono (he sh0 (fun _ => none) 0 [] []).mono hs
theorem vs_setLcm {i : Nat} {y : Str} {py spos : Pos} (hc : X.calm = true) (hN : X.N.Nodup) (hy : X.N[i]? = some y) (hyl : X.env.scope.names.lookup y = some .local)
    (hsw : swapsWith (.ListComp elt [⟨tg, iter, ifs, 0⟩] scope pos) (some (.Name y py)) spos.line X.env = pure true) (hi : VI X G tg iter src) (ok : BlkOk X.N X.env.scope scope own)
    (hg : ∀ (s : Shared) (H : Hp) (C : Addr) (cl : List (Str × Addr)) (fp : List Addr), VG (X.blk s H scope (compEnvC scope cl C X.env) fp) G tg g is) (his : ∀ i, i ∈ is → i ∈ own.map (·.2))
    (ht : ∀ (s : Shared) (H : Hp) (C : Addr) (cl : List (Str × Addr)) (fp : List Addr), VTs (X.blk s H scope (compEnvC scope cl C X.env) fp) G ifs tt)
    (he : ∀ (s : Shared) (H : Hp) (C : Addr) (cl : List (Str × Addr)) (fp : List Addr), VE (X.blk s H scope (compEnvC scope cl C X.env) fp) G elt pe) (hs : ∀ x, foldedSetIterable iter X.env x = pure x := by intro _; rfl) :
    VS X G (.Assign [.Name y py] (.ListComp elt [⟨tg, iter, ifs, 0⟩] scope pos) spos) (vsAsg (vLc (own.map (·.2)) src g tt pe) (vgName i)) :=
  vs_setLc hc hN hy hyl hsw hi ok hg his ht he (hg sh0 (fun _ => none) 0 [] []).mono (ht sh0 (fun _ => none) 0 [] []).mono (he sh0 (fun _ => none) 0 [] []).mono hs
end
end Vx
namespace Vx
open PySem PySem.Spec PyProof.Rows L2
theorem room64 {k : Nat} {A : Around} (r : Room k A) : A.units + 64 < cLine := by have := r.un; omega
theorem room65 {k : Nat} {A : Around} (r : Room k A) : A.units + 65 < cLine := by have := r.un; omega
theorem room66 {k : Nat} {A : Around} (r : Room k A) : A.units + 66 < cLine := by have := r.un; omega
end Vx

namespace Vx
open PySem PySem.Spec PyProof.Rows L2

/-! ### plain laws of the readings -/
section
variable {α : Type} {a0 a1 a2 a3 a4 a5 a6 a7 : α} {t : List α}
theorem atI_nat {ds : List α} {i : Int} (h0 : 0 ≤ i) (h1 : i < ds.length) : atI ds i = ds[i.toNat]? := by
  unfold atI ixN
  rw [if_pos h0, if_pos h1]
  rfl
theorem atI_c0 : atI (a0 :: t) 0 = some a0 := (atI_nat (by omega) (by simp only [List.length_cons]; omega)).trans rfl
theorem atI_c1 : atI (a0 :: a1 :: t) 1 = some a1 := (atI_nat (by omega) (by simp only [List.length_cons]; omega)).trans rfl
theorem atI_c2 : atI (a0 :: a1 :: a2 :: t) 2 = some a2 := (atI_nat (by omega) (by simp only [List.length_cons]; omega)).trans rfl
theorem atI_c3 : atI (a0 :: a1 :: a2 :: a3 :: t) 3 = some a3 := (atI_nat (by omega) (by simp only [List.length_cons]; omega)).trans rfl
theorem atI_c4 : atI (a0 :: a1 :: a2 :: a3 :: a4 :: t) 4 = some a4 := (atI_nat (by omega) (by simp only [List.length_cons]; omega)).trans rfl
theorem atI_c5 : atI (a0 :: a1 :: a2 :: a3 :: a4 :: a5 :: t) 5 = some a5 := (atI_nat (by omega) (by simp only [List.length_cons]; omega)).trans rfl
theorem atI_at {ds : List α} {i : Int} (h0 : 0 ≤ i) (h1 : i < ds.length) : ∃ d, ds[i.toNat]? = some d ∧ atI ds i = some d := by
  have hl : i.toNat < ds.length := by omega
  have e : ds[i.toNat]? = some ds[i.toNat] := List.getElem?_eq_getElem hl
  exact ⟨_, e, (atI_nat h0 h1).trans e⟩
end
theorem ixN_nat {n : Nat} {i : Int} (h0 : 0 ≤ i) (h1 : i < n) : ixN n i = some i.toNat := by unfold ixN; rw [if_pos h0, if_pos h1]
theorem ixN_30 : ixN 3 0 = some 0 := rfl
theorem ixN_31 : ixN 3 1 = some 1 := rfl
theorem ixN_32 : ixN 3 2 = some 2 := rfl
theorem cdw {i j : Int} (h : 0 < j) (h2 : j < 18446744073709551616) : CDivW i j := by
  refine ⟨h, ?_⟩
  have hz : j.natAbs ≠ 0 := by omega
  have : j.natAbs.log2 < 64 := by
    rw [Nat.log2_lt hz]
    have : j.natAbs < 18446744073709551616 := by omega
    simpa using this
  omega
/-- a for loop by an invariant of what is left -/
theorem forL_ind {g : PGv} {body : PSv} {E : VEnds} (I : List D → Env → Prop)
    (step : ∀ d ds r (N : Env → Prop), I (d :: ds) r → (∀ r', I ds r' → N r') → g (.sh d) r fun r1 => body r1 { E with nx := N, ct := N, bk := E.nx })
    (done : ∀ r, I [] r → E.nx r) : ∀ ds r, I ds r → forL g body ds r E
  | [], r, h => done r h
  | d :: ds, r, h => step d ds r _ h fun r' h' => forL_ind I step done ds r' h'
/-- the same by how many turns are behind -/
theorem lcL_ind {vs : List Nat} {g : PGv} {tt : PTv} {elt : PEv} {k : List D → Env → Prop} (I : List D → List D → Env → Prop)
    (step : ∀ d ds acc r (N : List D → Env → Prop), I (d :: ds) acc r → (∀ acc' r', I ds acc' r' → N acc' r') →
      g (.sh d) r fun r1 => tt r1 (fun b r2 => if b = true then elt r2 (fun sv r3 => acc.length < 16777216 ∧ N (acc ++ [sv.fz]) (wipeE r3 vs)) noW else N acc (wipeE r2 vs)) noW)
    (done : ∀ acc r, I [] acc r → k acc r) : ∀ ds acc r, I ds acc r → lcL vs g tt elt ds acc r k
  | [], acc, r, h => done acc r h
  | d :: ds, acc, r, h => step d ds acc r (fun acc' r' => lcL vs g tt elt ds acc' r' k) h fun acc' r' h' => lcL_ind I step done ds acc' r' h'
/-! ### words -/
theorem sne_bound_apart : (Str.ofString "bound" = Str.ofString "apart") = False := eq_false (by decide +kernel)
theorem sne_bound_sum : (Str.ofString "bound" = Str.ofString "sum") = False := eq_false (by decide +kernel)
theorem sne_bound_either : (Str.ofString "bound" = Str.ofString "either") = False := eq_false (by decide +kernel)
theorem sne_bound_least : (Str.ofString "bound" = Str.ofString "least") = False := eq_false (by decide +kernel)
theorem sne_bound_most : (Str.ofString "bound" = Str.ofString "most") = False := eq_false (by decide +kernel)
theorem sne_apart_bound : (Str.ofString "apart" = Str.ofString "bound") = False := eq_false (by decide +kernel)
theorem sne_apart_sum : (Str.ofString "apart" = Str.ofString "sum") = False := eq_false (by decide +kernel)
theorem sne_apart_either : (Str.ofString "apart" = Str.ofString "either") = False := eq_false (by decide +kernel)
theorem sne_apart_least : (Str.ofString "apart" = Str.ofString "least") = False := eq_false (by decide +kernel)
theorem sne_apart_most : (Str.ofString "apart" = Str.ofString "most") = False := eq_false (by decide +kernel)
theorem sne_sum_bound : (Str.ofString "sum" = Str.ofString "bound") = False := eq_false (by decide +kernel)
theorem sne_sum_apart : (Str.ofString "sum" = Str.ofString "apart") = False := eq_false (by decide +kernel)
theorem sne_sum_either : (Str.ofString "sum" = Str.ofString "either") = False := eq_false (by decide +kernel)
theorem sne_sum_least : (Str.ofString "sum" = Str.ofString "least") = False := eq_false (by decide +kernel)
theorem sne_sum_most : (Str.ofString "sum" = Str.ofString "most") = False := eq_false (by decide +kernel)
theorem sne_either_bound : (Str.ofString "either" = Str.ofString "bound") = False := eq_false (by decide +kernel)
theorem sne_either_apart : (Str.ofString "either" = Str.ofString "apart") = False := eq_false (by decide +kernel)
theorem sne_either_sum : (Str.ofString "either" = Str.ofString "sum") = False := eq_false (by decide +kernel)
theorem sne_either_least : (Str.ofString "either" = Str.ofString "least") = False := eq_false (by decide +kernel)
theorem sne_either_most : (Str.ofString "either" = Str.ofString "most") = False := eq_false (by decide +kernel)
theorem sne_least_bound : (Str.ofString "least" = Str.ofString "bound") = False := eq_false (by decide +kernel)
theorem sne_least_apart : (Str.ofString "least" = Str.ofString "apart") = False := eq_false (by decide +kernel)
theorem sne_least_sum : (Str.ofString "least" = Str.ofString "sum") = False := eq_false (by decide +kernel)
theorem sne_least_either : (Str.ofString "least" = Str.ofString "either") = False := eq_false (by decide +kernel)
theorem sne_least_most : (Str.ofString "least" = Str.ofString "most") = False := eq_false (by decide +kernel)
theorem sne_most_bound : (Str.ofString "most" = Str.ofString "bound") = False := eq_false (by decide +kernel)
theorem sne_most_apart : (Str.ofString "most" = Str.ofString "apart") = False := eq_false (by decide +kernel)
theorem sne_most_sum : (Str.ofString "most" = Str.ofString "sum") = False := eq_false (by decide +kernel)
theorem sne_most_either : (Str.ofString "most" = Str.ofString "either") = False := eq_false (by decide +kernel)
theorem sne_most_least : (Str.ofString "most" = Str.ofString "least") = False := eq_false (by decide +kernel)
/-- a way: least, most -/
def wy (b : Bool) : Str := if b = true then Str.ofString "least" else Str.ofString "most"
theorem wy_least {b : Bool} : (wy b = Str.ofString "least") = (b = true) := by cases b <;> decide +kernel
theorem wy_most {b : Bool} : (wy b = Str.ofString "most") = (b = false) := by cases b <;> decide +kernel
theorem wy_true : wy true = Str.ofString "least" := rfl
theorem wy_false : wy false = Str.ofString "most" := rfl
theorem wy_of {w : Str} (h : w = Str.ofString "least" ∨ w = Str.ofString "most") : ∃ b, w = wy b := by
  rcases h with rfl | rfl
  · exact ⟨true, rfl⟩
  · exact ⟨false, rfl⟩
theorem wy_way (b : Bool) : wy b = Str.ofString "least" ∨ wy b = Str.ofString "most" := by cases b <;> first | exact .inl rfl | exact .inr rfl
/-! ### a test by itself, its suites untouched -/
theorem vsIf_K {c : PTv} {p q : PSv} {ρ r : Env} {E : VEnds} {b : Bool} (h : ∀ (K : Bool → Env → Prop) (W : WxV), K b r → c ρ K W) (h2 : if b = true then p r E else q r E) : vsIf c p q ρ E := h _ _ h2
theorem seqIf_K {c : PTv} {p q s : PSv} {ρ r : Env} {E : VEnds} {b : Bool} (h : ∀ (K : Bool → Env → Prop) (W : WxV), K b r → c ρ K W) (h2 : if b = true then p r { E with nx := fun r => s r E } else q r { E with nx := fun r => s r E }) : vsSeq (vsIf c p q) s ρ E := h _ _ h2
theorem seqNo {c : PTv} {p s : PSv} {ρ : Env} {E : VEnds} (h : ∀ (K : Bool → Env → Prop) (W : WxV), K false ρ → c ρ K W) (h2 : s ρ E) : vsSeq (vsIf c p vsNext) s ρ E := h _ _ (by rw [if_neg (by decide)]; exact h2)
theorem seqYes {c : PTv} {p q s : PSv} {ρ : Env} {E : VEnds} (h : ∀ (K : Bool → Env → Prop) (W : WxV), K true ρ → c ρ K W) (h2 : p ρ { E with nx := fun r => s r E }) : vsSeq (vsIf c p q) s ρ E := h _ _ (by rw [if_pos rfl]; exact h2)
theorem ifNo {c : PTv} {p q : PSv} {ρ : Env} {E : VEnds} (h : ∀ (K : Bool → Env → Prop) (W : WxV), K false ρ → c ρ K W) (h2 : q ρ E) : vsIf c p q ρ E := h _ _ (by rw [if_neg (by decide)]; exact h2)
theorem ifYes {c : PTv} {p q : PSv} {ρ : Env} {E : VEnds} (h : ∀ (K : Bool → Env → Prop) (W : WxV), K true ρ → c ρ K W) (h2 : p ρ E) : vsIf c p q ρ E := h _ _ (by rw [if_pos rfl]; exact h2)
theorem fnRun_K {np n : Nat} {p : PSv} {args : List SV} {Q : QV} {W : WxV} {ρ : Env} (hl : args.length = np) (hs : startV n args = ρ) (h : p ρ { nx := fun r => Q (.sh .non) r, rt := Q, ex := W }) : fnRun np n p args Q W := ⟨hl, hs ▸ h⟩
end Vx

namespace Vx
open PySem PySem.Spec PyProof.Rows L2

/-! ### enumerate over a tuple -/
theorem enumNewT (tp : Addr) (its : Array Value) (c : Nat) (dd : Option Addr) (ss : Array (Option Value)) :
    Meets (Builtin.«enumerate.__new__» ⟨[.type "enumerate", .ref tp], []⟩) (fun _ R s => s.heap.get? tp = some { cls := .type "tuple", dict := dd, data := .seq its c, slots := ss } ∧
      R (.ok (.ret (.ref (s.heap.push { cls := .type "tuple_iterator", data := .fields #[.ref tp, .int 0 0] }).objs.size)))
        { s with heap := (s.heap.push { cls := .type "tuple_iterator", data := .fields #[.ref tp, .int 0 0] }).push { cls := .type "enumerate", data := .fields #[.none, .bool false, .ref s.heap.objs.size, rawInt 0, .none, .none] } }) :=
  .of_wp fun prog w A R s want => by
    obtain ⟨hp, g, d, tk, os⟩ := s
    obtain ⟨look, want⟩ := want
    have subE := sub_enumerate
    have isT : Heap.IsTuple (Shared.heap ⟨hp, g, d, tk, os⟩) tp its := ⟨_, look, rfl, c, rfl⟩
    wp_walk using AutoSeq1.wpAny_loadPart' look
    refine wpAny_stack_any fun stk => wpAny_pure ?_
    split
    · rename_i cl _ _ _ _ _
      cases (cl == Value.type "enumerate")
      · wp_walk using AutoSeq1.wpAny_loadPart' look, wpAny_pyIter_tuple isT
        exact ⟨_, rfl, want⟩
      · wp_walk using AutoSeq1.wpAny_loadPart' look, wpAny_pyIter_tuple isT
        exact ⟨_, rfl, want⟩
    · wp_walk using AutoSeq1.wpAny_loadPart' look, wpAny_pyIter_tuple isT
      exact ⟨_, rfl, want⟩
theorem callEnumT {prog : Program} {w : World} {A : Around} {E : Value → Shared → Prop} {s : Shared} {tp : Addr} {its : Array Value} {Q : Value → Shared → Prop} (isT : s.heap.IsTuple tp its)
    (want : ∀ h2, IsEnum h2 (s.heap.objs.size + 1) s.heap.objs.size 0 .none → h2.IsTupleIter s.heap.objs.size tp 0 → (∀ b o, s.heap.get? b = some o → h2.get? b = some o) → Q (.ref (s.heap.objs.size + 1)) { s with heap := h2 }) :
    wpAny (model prog w) A (call (.type "enumerate") [.ref tp]) Q E s := by
  obtain ⟨⟨c, dd, dt, ss⟩, look, hc, n, hd⟩ := isT
  have hc' : c = .type "tuple" := hc
  have hd' : dt = .seq its n := hd
  subst hc' hd'
  refine callType_new F.called_enumerate (by decide) (F.typeCall_enumerate_1 _) (F.newCall_enumerate_1 _) (fun ob => F.args_object_init_2 ob _) F.entry_enumerate_new (enumNewT tp its n dd ss) ⟨look, ?_⟩
  have sz1 : (s.heap.push { cls := .type "tuple_iterator", data := .fields #[.ref tp, .int 0 0] }).objs.size = s.heap.objs.size + 1 := Heap.size_push ..
  show _ ∧ _
  rw [sz1]
  have isE : IsEnum ((s.heap.push { cls := .type "tuple_iterator", data := .fields #[.ref tp, .int 0 0] }).push { cls := .type "enumerate", data := .fields #[.none, .bool false, .ref s.heap.objs.size, rawInt 0, .none, .none] }) (s.heap.objs.size + 1) s.heap.objs.size 0 .none := by
    have z := Heap.get?_push_size (s.heap.push { cls := .type "tuple_iterator", data := .fields #[.ref tp, .int 0 0] }) (o := { cls := .type "enumerate", data := .fields #[.none, .bool false, .ref s.heap.objs.size, rawInt 0, .none, .none] }) rfl
    rw [sz1] at z
    exact z
  exact ⟨⟨_, isE, rfl⟩, want _ isE ⟨_, Heap.get?_push_of_some _ (Heap.get?_push_size _ rfl), rfl, rfl⟩ fun b o z => Heap.get?_push_of_some _ (Heap.get?_push_of_some _ z)⟩
/-- the tuple at a at each turn, each item in a new pair -/
def Itet (K : PySem.W.Frag) (a : Addr) : It :=
  ⟨fun i H => ∃ (xs : List V) (x : V), SqT K H a xs ∧ xs[i]? = some x, fun i H v H' => ∃ T x, v = .ref T ∧ H T = none ∧ H' = upd H T (.tup [.int (i : Nat), x]) ∧ ∀ xs, SqT K H a xs → xs[i]? = some x, fun i H => ∃ xs : List V, SqT K H a xs ∧ xs.length ≤ i⟩
theorem enumEndT {prog : Program} {w : World} {A : Around} {E : Value → Shared → Prop} {s : Shared} {e it tp : Addr} {i : Nat} {its : Array Value} {old : Value} {Q : Option Value → Shared → Prop} (calm : A.in1.handled = none) (isE : IsEnum s.heap e it i old) (isI : s.heap.IsTupleIter it tp i)
    (isT : s.heap.IsTuple tp its) (out : its[i]? = none) (want : ∀ h2, Heap.ExtBut it s.heap h2 → Q none { s with heap := h2 }) : wpAny (model prog w) A (pyNext (.ref e)) Q E s := by
  have ty : s.TypeIs (.ref e) "enumerate" := ⟨_, isE, rfl⟩
  unfold pyNext
  refine wpAny_bind (wpAny_attempt (wpAny_callSpecial?_slot (name := Str.ofString "__next__") ty F.slot_enumerate_next (wpAny_call_entry F.slot_enumerate_next ty F.entry_enumerate_next ?_ (F.args_enumerate_next_1 _))))
  show wpAny _ _ (field (.ref e) 2 >>= _) _ _ _
  refine wpAny_bind (wpAny_field isE rfl (x := .ref it) rfl (wpAny_bind (wpAny_nextOf_tuple_end calm isI isT out fun h2 o eb ho => ?_)))
  obtain ⟨ob, look, hc⟩ := ho
  exact wpAny_bind (wpAny_isInstance (T := "StopIteration") (b := true) ⟨ob, look, hc⟩ isSubtype_stop (wpAny_pure (want _ eb)))
theorem turnEnumT {P : Program} {w : World} {K : PySem.W.Frag} {elts : List Expr} {kk : Nat} {tpos : Pos} (a e it : Addr) :
    Turn P w K (.Tuple elts kk tpos) (Itet K a) [e, it] e (fun i h => (∃ old, IsEnum h e it ((i : Nat) : Int) old) ∧ h.IsTupleIter it a i ∧ e ≠ it) where
  mem := List.mem_cons_self
  obj := fun i h st b hb => by
    obtain ⟨⟨old, isE⟩, ⟨o, look, hc, hd⟩, _⟩ := st
    rcases List.mem_cons.mp hb with z | hb
    · subst z; exact ⟨_, isE, fun v q => nomatch q⟩
    · rw [List.mem_singleton.mp hb]; exact ⟨o, look, fun v q => by rw [hd] at q; cases q⟩
  keep := fun i h h2 st k => by
    obtain ⟨⟨old, isE⟩, isI, ne⟩ := st
    exact ⟨⟨old, k e List.mem_cons_self _ isE⟩, isI.at fun o q => k it (List.mem_cons_of_mem _ List.mem_cons_self) o q, ne⟩
  item := by
    intro X hP hw hK calm i pins s σ H E I hf st want
    subst hP hw hK
    obtain ⟨⟨old, isE⟩, isI, ne⟩ := st
    obtain ⟨xs, x, hq, hx⟩ := want
    obtain ⟨its, rel, isT, _⟩ := I.tuple hq
    have isT' : s.heap.IsTuple a its.toArray := isT
    obtain ⟨u, hu, ru⟩ := rel.get hx
    have lte : e < s.heap.objs.size := Heap.lt_size isE
    have lti : it < s.heap.objs.size := by
      obtain ⟨_, q, _⟩ := isI
      exact Heap.lt_size q
    have nea : e ≠ a := fun z => by
      subst z
      obtain ⟨o, q1, q2, _⟩ := isT'
      rw [(show s.heap.get? e = _ from isE)] at q1
      cases q1
      exact absurd (Value.type.inj (show Value.type "enumerate" = Value.type "tuple" from q2)) (by decide)
    have nia : a ≠ it := fun z => by
      subst z
      obtain ⟨o, q1, q2, _⟩ := isT'
      obtain ⟨o2, q3, q4, _⟩ := isI
      rw [q1] at q3
      cases q3
      have q5 : Value.type "tuple" = Value.type "tuple_iterator" := q2.symm.trans q4
      exact absurd (Value.type.inj q5) (by decide)
    have lt : i < its.toArray.size := by
      have z := (List.getElem?_eq_some_iff.mp hu).1
      simpa using z
    refine wpAny_pyNext_enum_itemD (Draws.tuple (prog := X.prog) (w := X.w) (A := X.A.in1) (show X.A.in1.handled = none from I.ok.hd calm) it a nia its.toArray) isE ⟨isI, isT'⟩ lt ne (by simp [nea, ne]) fun y h1 tk py isO st1 look1 sz1 kp => ?_
    have ey : y = u := by
      have z : its.toArray[i]? = some u := by simpa using hu
      have py' : its.toArray[i]? = some y := py
      rw [z] at py'
      exact (Option.some.inj py').symm
    subst ey
    refine ⟨_, rfl, wpAny_letOwnedTupleGo_enum (s := { s with heap := h1, toks := tk + 1 }) isO fun h2 isE2 sb => ?_⟩
    have look2 : h2.get? s.heap.objs.size = some { cls := .type "tuple", data := .seq #[.int i tk, y] } := (sb.2 _ (Nat.ne_of_gt lte)).trans look1
    have new : ObjOk X.prog X.w (upd H s.heap.objs.size (.tup [.int (i : Nat), x])) h2 s.heap.objs.size (.tup [.int (i : Nat), x]) :=
      ⟨by show 2 ≤ sizeLine; decide, [.int i tk, y], .cons ⟨_, rfl⟩ (.cons ru .nil), ⟨_, look2, rfl, _, rfl⟩⟩
    have J : Inv X pins σ (upd H s.heap.objs.size (.tup [.int (i : Nat), x])) { s with heap := h2, toks := tk + 1 } :=
      I.turnedNew (ch := [e, it]) (fun b ob hb q => by
        have n1 : b ≠ e := fun z => hb (by rw [z]; exact List.mem_cons_self)
        have n2 : b ≠ it := fun z => hb (by rw [z]; exact List.mem_cons_of_mem _ List.mem_cons_self)
        exact (sb.2 b n1).trans (kp b ob n1 n2 q)) hf (Nat.le_refl _) new
    refine ⟨.ref s.heap.objs.size, _, J, rfl, ⟨_, x, rfl, I.hok.fresh (Nat.le_refl _), rfl, fun ys hy => by rw [I.tuple_inj hy hq]; exact hx⟩, ⟨⟨y, ?_⟩, st1.1.at fun o q => (sb.2 it (Ne.symm ne)).trans q, ne⟩, fun b hb => ?_⟩
    · have ei : ((i + 1 : Nat) : Int) = (i : Int) + 1 := by omega
      rw [ei]
      exact isE2
    · have ltb : b < s.heap.objs.size := by
        rcases List.mem_cons.mp hb with z | hb
        · rw [z]; exact lte
        · rw [List.mem_singleton.mp hb]; exact lti
      rw [upd_ne (Nat.ne_of_lt ltb)]
      exact (hf b hb).1
  done := by
    intro X hP hw hK calm i pins s σ H E I hf st want
    subst hP hw hK
    obtain ⟨⟨old, isE⟩, isI, ne⟩ := st
    obtain ⟨xs, hq, hx⟩ := want
    obtain ⟨its, rel, isT, _⟩ := I.tuple hq
    have isT' : s.heap.IsTuple a its.toArray := isT
    obtain ⟨f0, f1, f2, f3, f4, f5⟩ := hf it (List.mem_cons_of_mem _ List.mem_cons_self)
    have out : its.toArray[i]? = none := by
      have z := rel.length
      simp only [List.getElem?_toArray]
      exact List.getElem?_eq_none (by omega)
    exact enumEndT (show X.A.in1.handled = none from I.ok.hd calm) isE isI isT' out fun h2 eb => ⟨rfl, I.turned (t' := s.toks) (fun b o hb q => eb b o hb q) f0 f1 f3 f4 f5⟩
  self := fun A i s Q E st h => by
    obtain ⟨⟨_, isE⟩, _⟩ := st
    exact wpAny_pyIter_enum isE h
/-- enumerate(x), x a list or a tuple -/
def iEnumV (K : PySem.W.Frag) (ta : TA) : TI := fun σ H R => ta σ H fun vs H1 => ∃ a, vs = [.ref a] ∧ (((∃ xs, SqL K H1 a xs) ∧ R (Ite K a) H1) ∨ ((∃ xs, SqT K H1 a xs) ∧ R (Itet K a) H1))
theorem pi_enumV {X : Cx} {e : Expr} {ta : TA} {p pos tpos : Pos} {elts : List Expr} {kk : Nat} (hg : Gl X "enumerate") (hm : X.mg "enumerate" = none) (ha : PA X [e] ta) (hs : starEach [e] X.env = [(false, eval e X.env)] := by rfl) :
    PI X (.Tuple elts kk tpos) (.Call (.Name "enumerate" p) [e] [] pos) (iEnumV X.K ta) := by
  refine ⟨fun pins s σ H R I want => Call_ (ld_blt I hg hm boot_enumerate (PyProof.Rows.callWith_type1 (thn (ha.run pos pins s σ H _ I want) fun us s1 h => ?_) hs rfl))⟩
  obtain ⟨vs, H1, I1, rel, a, ev, q⟩ := h
  subst ev
  obtain ⟨u, rfl, ru⟩ := vals1 rel
  have ru' : u = Value.ref a := ru
  subst ru'
  have fresh : ∀ b, s1.heap.objs.size ≤ b → FpOk X pins H1 b := fun b hb => I1.fpOk hb (I1.hok.fresh hb)
  have fps : ∀ b ∈ [s1.heap.objs.size + 1, s1.heap.objs.size], FpOk X pins H1 b := fun b hb => by
    rcases List.mem_cons.mp hb with z | hb
    · exact fresh b (by omega)
    · rw [List.mem_singleton.mp hb]; exact fresh _ (Nat.le_refl _)
  rcases q with ⟨⟨xs, hq⟩, q⟩ | ⟨⟨xs, hq⟩, q⟩
  · obtain ⟨its, _, isL, _⟩ := I1.list hq
    exact call_enumerate_list isL.isList fun h2 isE isI _ kp => wpAny_pyIter_enum isE ⟨_, _, _, _, H1, rfl, I1.kept (t' := s1.toks) kp, turn_enum a _ _, ⟨⟨.none, isE⟩, isI, Nat.succ_ne_self _⟩, fps, q⟩
  · obtain ⟨its, _, isT, _⟩ := I1.tuple hq
    have isT' : s1.heap.IsTuple a its.toArray := isT
    exact callEnumT isT' fun h2 isE isI kp => wpAny_pyIter_enum isE ⟨_, _, _, _, H1, rfl, I1.kept (t' := s1.toks) kp, turnEnumT a _ _, ⟨⟨.none, isE⟩, isI, Nat.succ_ne_self _⟩, fps, q⟩
def enumD : Nat → List D → List D
  | _, [] => []
  | k, d :: ds => .tup [.int (k : Int), d] :: enumD (k + 1) ds
theorem enumD_get : ∀ (k : Nat) (ds : List D) (i : Nat), (enumD k ds)[i]? = (ds[i]?).map fun d => D.tup [.int ((k + i : Nat) : Int), d]
  | k, [], i => rfl
  | k, d :: ds, 0 => rfl
  | k, d :: ds, i + 1 => by
    show (enumD (k + 1) ds)[i]? = _
    rw [enumD_get (k + 1) ds i]
    show _ = (ds[i]?).map _
    rw [show k + 1 + i = k + (i + 1) by omega]
theorem enumD_len : ∀ (k : Nat) (ds : List D), (enumD k ds).length = ds.length
  | _, [] => rfl
  | k, d :: ds => congrArg Nat.succ (enumD_len (k + 1) ds)
def srcE (p : PEv) : PSrc := fun ρ k W => p ρ (fun sv r => match sv.fz with
  | .lst ds => k (enumD 0 ds) r
  | .tup ds => k (enumD 0 ds) r
  | _ => False) W
section
variable {G : Gh} {K : PySem.W.Frag}
theorem itR_el {hs : Hd} {σ0 : L2.St} {a : Addr} {ds : List D} (hm : ∀ (hs2 : Hd) (ρ : Env) (σ : L2.St) (H : Hp) (O : Own), (∀ p, p ∈ hs → p ∈ hs2) → StR G K hs2 σ H ρ O → ∃ xs, SqL K H a xs ∧ RepL K O H ds xs) : ItR G K hs σ0 (Ite K a) (enumD 0 ds) := by
  intro hs2 i ρ σ H O sub st
  obtain ⟨xs, t, r⟩ := hm hs2 ρ σ H O sub st
  refine ⟨fun hle => ⟨xs, t, by rw [r.length]; rw [enumD_len] at hle; exact hle⟩, fun d hd => ?_⟩
  rw [enumD_get, Nat.zero_add] at hd
  cases e : ds[i]? with
  | none => rw [e] at hd; cases hd
  | some d0 =>
    rw [e] at hd
    cases hd
    obtain ⟨x, hx, rx⟩ := r.get e
    refine ⟨⟨xs, x, t, hx⟩, fun y H' hy => ?_⟩
    obtain ⟨T, z, rfl, hT, rfl, hz⟩ := hy
    have ez := hz xs t
    rw [hx] at ez
    cases ez
    obtain ⟨st', r'⟩ := st.resTup hT (ds := [.int (i : Int), d0]) (repL_cons.mpr ⟨_, _, rfl, rep_int.mpr rfl, RepL.one rx⟩)
    exact ⟨O, st', r'⟩
theorem itR_et {hs : Hd} {σ0 : L2.St} {a : Addr} {ds : List D} (hm : ∀ (hs2 : Hd) (ρ : Env) (σ : L2.St) (H : Hp) (O : Own), (∀ p, p ∈ hs → p ∈ hs2) → StR G K hs2 σ H ρ O → ∃ xs, SqT K H a xs ∧ RepL K O H ds xs) : ItR G K hs σ0 (Itet K a) (enumD 0 ds) := by
  intro hs2 i ρ σ H O sub st
  obtain ⟨xs, t, r⟩ := hm hs2 ρ σ H O sub st
  refine ⟨fun hle => ⟨xs, t, by rw [r.length]; rw [enumD_len] at hle; exact hle⟩, fun d hd => ?_⟩
  rw [enumD_get, Nat.zero_add] at hd
  cases e : ds[i]? with
  | none => rw [e] at hd; cases hd
  | some d0 =>
    rw [e] at hd
    cases hd
    obtain ⟨x, hx, rx⟩ := r.get e
    refine ⟨⟨xs, x, t, hx⟩, fun y H' hy => ?_⟩
    obtain ⟨T, z, rfl, hT, rfl, hz⟩ := hy
    have ez := hz xs t
    rw [hx] at ez
    cases ez
    obtain ⟨st', r'⟩ := st.resTup hT (ds := [.int (i : Int), d0]) (repL_cons.mpr ⟨_, _, rfl, rep_int.mpr rfl, RepL.one rx⟩)
    exact ⟨O, st', r'⟩
end
section
variable {X : Cx} {G : Gh} {a : Expr} {p pos tpos : Pos} {elts : List Expr} {kk : Nat} {pe : PEv}
theorem vi_enum (hg : Gl X "enumerate") (hm : X.mg "enumerate" = none) (h : VE X G a pe) (hs : starEach [a] X.env = [(false, eval a X.env)] := by rfl) (hs0 : starEach (a :: []) X.env = (false, eval a X.env) :: starEach [] X.env := by rfl) :
    VI X G (.Tuple elts kk tpos) (.Call (.Name "enumerate" p) [a] [] pos) (srcE pe) := by
  refine ⟨fun ρ k k' W W' hk hW z => h.mono ρ _ _ _ _ (fun sv r z => ?_) hW z, fun We tk => ⟨_, pi_enumV hg hm ((va_cons (vo_val h) va_nil hs0).run We tk) hs, fun σ H R ⟨hs, ρ, O, st, z⟩ => ?_⟩⟩
  · split at z
    · exact hk _ _ z
    · exact hk _ _ z
    · exact z.elim
  · refine ⟨hs, ρ, O, st, ?_⟩
    show pe ρ _ _
    refine h.mono ρ _ _ _ _ (fun sv r z vs H1 O1 st1 rv => ?_) (fun _ _ _ w => w) z
    obtain ⟨v, r0, rfl, r1, rfl⟩ := rv
    have r1' : Rep X.K O1 H1 sv.fz v := r1
    split at z
    · rename_i ds hds
      rw [hds] at r1'
      obtain ⟨b, xs, rfl, t, rr⟩ := rep_lst.mp r1'
      exact ⟨b, rfl, .inl ⟨⟨xs, t.sq⟩, z _ H1 _ O1 (fun p hp => List.mem_cons_of_mem _ hp) (st1.hold r1') (itR_el (held_l List.mem_cons_self))⟩⟩
    · rename_i ds hds
      rw [hds] at r1'
      obtain ⟨b, xs, rfl, t, rr⟩ := rep_tup.mp r1'
      exact ⟨b, rfl, .inr ⟨⟨xs, t.sq⟩, z _ H1 _ O1 (fun p hp => List.mem_cons_of_mem _ hp) (st1.hold r1') (itR_et (held_t List.mem_cons_self))⟩⟩
    · exact z.elim
end
end Vx

namespace Vx
open PySem PySem.Spec PyProof.Rows L2

/-! ### range(a, b, -1) -/
def intsDown (lo : Int) (n : Nat) : List D := (List.range n).map fun (i : Nat) => D.int (lo - (i : Int))
def srcR3 (p q u : OpP) : PSrc := fun ρ k W => vOps [p, q, u] ρ (fun as r => match getAll r as with
  | some [.int a, .int b, .int c] => c = -1 ∧ (-(2 ^ 62) ≤ a ∧ a < 2 ^ 62 ∧ -(2 ^ 62) ≤ b ∧ b < 2 ^ 62) ∧ k (intsDown a (a - b).toNat) r
  | _ => False) W
theorem itR_down {G : Gh} {K : PySem.W.Frag} {hs : Hd} {σ0 : L2.St} {lo : Int} {n : Nat} : ItR G K hs σ0 (Itc lo (-1) n) (intsDown lo n) := by
  intro hs2 i ρ σ H O _ st
  have len : (intsDown lo n).length = n := by unfold intsDown; rw [List.length_map, List.length_range]
  refine ⟨fun hle => by show n ≤ i; omega, fun d hd => ?_⟩
  unfold intsDown at hd
  rw [List.getElem?_map] at hd
  cases e : (List.range n)[i]? with
  | none => rw [e] at hd; cases hd
  | some j =>
    rw [e] at hd
    obtain ⟨h1, h2⟩ := List.getElem?_eq_some_iff.mp e
    rw [List.getElem_range] at h2
    rw [List.length_range] at h1
    subst h2
    cases hd
    refine ⟨h1, fun x H' hy => ?_⟩
    obtain ⟨rfl, rfl⟩ := hy
    exact ⟨O, st, rep_int.mpr (by congr 1; omega)⟩
section
variable {X : Cx} {G : Gh} {tg a b c e : Expr} {pa pb pc : OpP} {p pos p1 p2 p3 : Pos} {k : Nat}
theorem vi_range3 (hg : Gl X "range") (hm : X.mg "range" = none) (ha : VA X G [a, b, c] [pa, pb, pc])
    (hs : starEach [a, b, c] X.env = (false, eval a X.env) :: starEach [b, c] X.env := by rfl) (hpl : (backTo pos (starEach [b, c] X.env)).any (·.1) = false := by rfl) :
    VI X G tg (.Call (.Name "range" p) [a, b, c] [] pos) (srcR3 pa pb pc) := by
  refine ⟨fun ρ k k' W W' hk hW z => ha.mono ρ _ _ _ _ (fun as r z => ?_) hW z, fun We tk => ⟨_, pi_range3 hg hm (ha.run We tk) hs hpl, fun σ H R ⟨hs, ρ, O, st, z⟩ => ?_⟩⟩
  · split at z
    · exact ⟨z.1, z.2.1, hk _ _ z.2.2⟩
    · exact z.elim
  · refine ⟨hs, ρ, O, st, ha.mono ρ _ _ _ _ (fun as r z vs H1 O1 st1 rv => ?_) (fun _ _ _ w => w) z⟩
    split at z
    · rename_i i j c hn
      obtain ⟨rfl, ⟨z1, z2, z3, z4⟩, z⟩ := z
      obtain ⟨v, r1, rfl, h1, w, r2, rfl, h3, u, r3, rfl, h5, h6⟩ := st1.viewL rv hn
      have h6' : r3 = [] := h6
      subst h6'
      exact ⟨i, j, -1, _, by rw [view_int h1, view_int h3, view_int h5], RgC.neg z1 z2 z3 z4, z _ H1 hs O1 (fun _ h => h) st1 itR_down⟩
    · exact z.elim

/-! ### xs[::-1], a list -/
def fRev : F1
  | .lst ds, k => k (.ow ds.reverse)
  | _, _ => False
theorem fRev_mono : F1.Mono fRev := by
  intro d k k' hk h
  unfold fRev at h ⊢
  split at h
  · exact hk _ h
  · exact h.elim
theorem RepL.rev {K : PySem.W.Frag} {O : Own} {H : Hp} : ∀ {ds : List D} {xs : List V}, RepL K O H ds xs → RepL K O H ds.reverse xs.reverse
  | [], xs, h => by rw [repL_nil.mp h]; exact repL_nil.mpr rfl
  | d :: ds, xs, h => by
    obtain ⟨y, ys, rfl, r, t⟩ := repL_cons.mp h
    rw [List.reverse_cons, List.reverse_cons]
    exact RepL.append (RepL.rev t) (RepL.one r)
theorem ve_rev (ha : VO X G e pa) : VE X G (.Subscript e (.Slice none none (some (.UnaryOp .USub (.Constant (.int 1) k p1) p2)) p3) pos) (vUn fRev pa) := by
  refine ⟨vUn_mono fRev_mono ha.mono, fun We tk => (pe_revL (ha.run We tk)).weak fun σ H Q ⟨hs, ρ, O, st, z⟩ => ?_⟩
  refine ⟨hs, ρ, O, st, ha.mono ρ _ _ _ _ (fun av r z v H1 O1 st1 rv => ?_) (fun _ _ _ w => w) z⟩
  split at z
  · rename_i d hd
    have vw := st1.view rv hd
    unfold fRev at z
    split at z
    · obtain ⟨a, xs, rfl, t, rr⟩ := view_lst vw
      refine ⟨a, xs, rfl, t, fun p hp => ?_⟩
      obtain ⟨st', r'⟩ := st1.resLst hp rr.rev
      exact z _ _ _ st' r'
    · exact z.elim
  · exact z.elim

/-! ### [..] * n -/
theorem RepL.rep {K : PySem.W.Frag} {O : Own} {H : Hp} {ds : List D} {xs : List V} (h : RepL K O H ds xs) : ∀ n : Nat, RepL K O H (List.replicate n ds).flatten (List.replicate n xs).flatten
  | 0 => repL_nil.mpr rfl
  | n + 1 => by
    rw [List.replicate_succ, List.replicate_succ, List.flatten_cons, List.flatten_cons]
    exact RepL.append h (RepL.rep h n)
def vRep (p : PEv) (q : OpP) : PEv := fun ρ Q W => p ρ (fun sv r => match sv.fz with
  | .lst ds => vOp q r (fun y r2 => match y.get r2 with
    | some (.int n) => n < 2 ^ 62 ∧ -(2 ^ 62) ≤ n ∧ ds.length * n.toNat ≤ 16777216 ∧ Q (.ow (List.replicate n.toNat ds).flatten) r2
    | _ => False) W
  | _ => False) W
theorem vRep_mono {p : PEv} {q : OpP} (hp : EMono p) (hq : OMono q) : EMono (vRep p q) := fun ρ Q Q' W W' hQ hW z => hp ρ _ _ _ _ (fun sv r z => by
  split at z
  · refine hq r _ _ _ _ (fun y r2 z => ?_) hW z
    split at z
    · exact ⟨z.1, z.2.1, z.2.2.1, hQ _ _ z.2.2.2⟩
    · exact z.elim
  · exact z.elim) hW z
theorem ve_rep {pe : PEv} (ha : VE X G a pe) (hb : VO X G b pb) : VE X G (.BinOp a .Mult b pos) (vRep pe pb) := by
  refine ⟨vRep_mono ha.mono hb.mono, fun We tk => (pe_op op_rep ((vo_val ha).run We tk) (hb.run We tk)).weak fun σ H Q ⟨hs, ρ, O, st, z⟩ => ?_⟩
  refine ⟨hs, ρ, O, st, ?_⟩
  show pe ρ _ _
  refine ha.mono ρ _ _ _ _ (fun sv r z v H1 O1 st1 rv => ?_) (fun _ _ _ w => w) z
  have rv1 : Rep X.K O1 H1 sv.fz v := rv
  split at z
  · rename_i ds hds
    refine ⟨.val sv.fz v :: hs, r, O1, st1.hold rv1, hb.mono r _ _ _ _ (fun y r2 z w H2 O2 st2 rw2 => ?_) (tk.up _ _ fun p hp => List.mem_cons_of_mem _ hp) z⟩
    have st3 := st2.fewer (hs' := hs) fun p hp => List.mem_cons_of_mem _ hp
    have rv2 := st2.held sv.fz v List.mem_cons_self
    rw [hds] at rv2
    obtain ⟨a, xs, rfl, t, rr⟩ := rep_lst.mp rv2
    split at z
    · rename_i n hn
      have vw := st3.view rw2 hn
      rw [view_int vw]
      refine ⟨a, n, xs, rfl, rfl, t.1, by omega, by omega, lineN (by rw [rr.length]; exact z.2.2.1), fun p hp => ?_⟩
      obtain ⟨st', r'⟩ := st3.resLst hp (rr.rep n.toNat)
      exact z.2.2.2 _ _ _ st' r'
    · exact z.elim
  · exact z.elim
end
end Vx

namespace Vx
open PySem PySem.Spec PyProof.Rows L2

/-! ### t[::-1], a tuple -/
theorem pickBack (xs : Array Value) : ((List.range xs.size).filterMap fun (m : Nat) => xs[((xs.size : Int) - 1 + (m : Int) * (-1)).toNat]?).toArray = xs.toList.reverse.toArray := by
  congr 1
  have key : ∀ (k : Nat), k ≤ xs.size → ((List.range k).filterMap fun (m : Nat) => xs[((xs.size : Int) - 1 + (m : Int) * (-1)).toNat]?) = xs.toList.reverse.take k := by
    intro k
    induction k with
    | zero => intro _; rfl
    | succ k ih =>
      intro hk
      rw [List.range_succ, List.filterMap_append, ih (by omega)]
      have e : ((xs.size : Int) - 1 + (k : Int) * (-1)).toNat = xs.size - 1 - k := by omega
      have hl : k < xs.toList.reverse.length := by rw [List.length_reverse, Array.length_toList]; omega
      have hl2 : xs.size - 1 - k < xs.size := by omega
      rw [List.take_succ_eq_append_getElem hl]
      congr 1
      simp only [List.filterMap_cons, List.filterMap_nil, e]
      rw [Array.getElem?_eq_getElem hl2]
      simp only [List.getElem_reverse, Array.getElem_toList, Array.length_toList]
  rw [key xs.size (Nat.le_refl _), List.take_of_length_le (by rw [List.length_reverse, Array.length_toList]; omega)]
section
variable {prog : Program} {w : World} {A : Around} {E : Value → Shared → Prop} {s : Shared}
theorem sliceBack {sl : Addr} {n : Nat} {t : Tok} {Q : Int × Int × Nat → Shared → Prop} (hs : s.heap.IsSliceOf sl .none .none (.int (-1) t)) (want : Q ((n : Int) - 1, -1, n) s) : wpAny (model prog w) A (Builtin.Slice.sliceApplied (.ref sl) (pure (n : Int))) Q E s := by
  obtain ⟨os, look, hc, hd⟩ := id hs
  unfold Builtin.Slice.sliceApplied Builtin.Slice.sliceFields
  refine wpAny_bind (wpAny_bind (wpAny_field look hd (x := .none) rfl (wpAny_bind (wpAny_field look hd (x := .none) rfl (wpAny_bind (wpAny_field look hd (x := .int (-1) t) rfl (wpAny_pure ?_)))))))
  refine wpAny_bind (HT.slicePart_ (.int (-1) t) ?_)
  show wpAny _ _ (if ((-1 : Int) == 0) = true then _ else _) _ _ s
  rw [if_neg (by decide)]
  refine wpAny_bind (HT.slicePart_ .none (wpAny_bind (HT.slicePart_ .none (wpAny_bind (wpAny_pure ?_)))))
  show wpAny _ _ (match Builtin.Slice.sliceAdjust none none (-1) (n : Int) with | (lo, hi) => pure (lo, (-1 : Int), Builtin.Slice.slicePlaces lo hi (-1))) _ _ s
  have e1 : Builtin.Slice.sliceAdjust none none (-1) (n : Int) = ((n : Int) - 1, -1) := rfl
  have e2 : Builtin.Slice.slicePlaces ((n : Int) - 1) (-1) (-1) = n := by
    unfold Builtin.Slice.slicePlaces
    have h1 : ¬ ((-1 : Int) > 0) := by omega
    simp only [h1, if_false, Int.neg_neg, Int.ediv_one]
    split <;> omega
  rw [e1]
  show wpAny _ _ (pure ((n : Int) - 1, (-1 : Int), Builtin.Slice.slicePlaces ((n : Int) - 1) (-1) (-1))) _ _ s
  rw [e2]
  exact wpAny_pure want
theorem itemBack {tp sl : Addr} {its : Array Value} {t : Tok} {Q : Value → Shared → Prop} (isT : IsTup s.heap tp its) (hs : s.heap.IsSliceOf sl .none .none (.int (-1) t)) (small : its.size ≤ sizeLine)
    (want : Q (.ref s.heap.objs.size) { s with heap := s.heap.push { cls := .type "tuple", data := .seq its.toList.reverse.toArray } }) : wpAny (model prog w) A (getItem (.ref tp) (.ref sl)) Q E s := by
  have fits : sizeOk (.seq its.toList.reverse.toArray) := by
    show its.toList.reverse.toArray.size ≤ sizeLine
    rw [List.size_toArray, List.length_reverse, Array.length_toList]
    exact small
  obtain ⟨os, look, hc, hd⟩ := id hs
  have tyS : s.TypeIs (.ref sl) "slice" := ⟨os, look, hc⟩
  unfold getItem
  try with_reducible refine wpAny_holding ?_
  first | refine wpAny_bind (wpAny_pure ?_) | skip
  refine wpAny_bind (wpAny_sequenceKey isT.typeIs (by decide) (wpAny_bind (wpAny_callSpecial?_slot (name := Str.ofString "__getitem__") isT.typeIs PyProof.Rows.slot_tuple_getitem
    (wpAny_call_entry PyProof.Rows.slot_tuple_getitem isT.typeIs PyProof.Rows.entry_tuple_getitem ?_ (PyProof.Rows.args_tuple_getitem _ _)))))
  show wpAny _ _ (Builtin.Tuple.tupleItemsOf (.ref tp) >>= _) _ _ s
  refine wpAny_bind (PyProof.Rows.tupleItemsOf_ isT (wpAny_bind (wpAny_typeOf tyS ?_)))
  rw [if_pos (by decide)]
  refine wpAny_bind (sliceBack hs ?_)
  have off : ¬ (((its.size : Int) - 1 == 0 && (-1 : Int) == 1 && its.size == its.size) = true) := by
    intro q
    rw [Bool.and_eq_true, Bool.and_eq_true] at q
    exact absurd (eq_of_beq q.1.2) (by decide)
  show wpAny _ _ (if ((its.size : Int) - 1 == 0 && (-1 : Int) == 1 && its.size == its.size) = true then _ else _) _ _ s
  rw [if_neg off, pickBack]
  first
    | exact wpAny_bind (m := Builtin.Tuple.tupleExact _) (wpAny_newObj_type (wpAny_pure ⟨_, rfl, wpAny_pure want⟩) fits)
    | exact wpAny_bind (m := Builtin.Tuple.tupleExact _) (wpAny_newObj_type (wpAny_bind (wpAny_pure (wpAny_pure ⟨_, rfl, wpAny_pure want⟩))) fits)
    | exact wpAny_bind (wpAny_bind (m := Builtin.Tuple.tupleExact _) (wpAny_newObj_type (wpAny_pure (wpAny_pure ⟨_, rfl, wpAny_pure want⟩)) fits))
    | exact wpAny_bind (wpAny_bind (m := Builtin.Tuple.tupleExact _) (wpAny_newObj_type (wpAny_pure ⟨_, rfl, wpAny_pure want⟩) fits))
end
/-- x[::-1], x a list or a tuple -/
def tRevV (K : PySem.W.Frag) (te : TE) : TE := fun σ H Q => te σ H fun x H1 => ∃ a xs, x = .ref a ∧ ((SqL K H1 a xs ∧ ∀ p, H1 p = none → Q (.ref p) (upd H1 p (.lst xs.reverse))) ∨ (SqT K H1 a xs ∧ ∀ p, H1 p = none → Q (.ref p) (upd H1 p (.tup xs.reverse))))
theorem pe_revV {X : Cx} {e : Expr} {te : TE} {k : Nat} {p1 p2 p3 pos : Pos} (he : PE X e te) : PE X (.Subscript e (.Slice none none (some (.UnaryOp .USub (.Constant (.int 1) k p1) p2)) p3) pos) (tRevV X.K te) := by
  refine ⟨fun pins s σ H Q I want => Subscript_ (thn (he.run pins s σ H _ I want) fun v s1 h => ?_)⟩
  obtain ⟨x, H1, I1, rx, a, xs, ex, q⟩ := h
  subst ex
  have rx' : v = Value.ref a := rx
  subst rx'
  have stp : PO X (some (.UnaryOp .USub (.Constant (.int 1) k p1) p2)) (tPart (tUn (rU fun i => .int (-i)) (tC (.int 1)))) := po_some (pe_un un_neg pe_int)
  refine wpAny_Slice (thn (po_none.run pins s1 σ H1 (fun o H2 => o = none ∧ H2 = H1) I1 ⟨rfl, rfl⟩) fun vl s2 h2 => ?_)
  obtain ⟨l, H2, I2, pl, el, e2⟩ := h2
  subst el e2
  refine thn (po_none.run pins s2 σ H2 (fun o H3 => o = none ∧ H3 = H2) I2 ⟨rfl, rfl⟩) fun vu s3 h3 => ?_
  obtain ⟨u, H3, I3, pu, eu, e3⟩ := h3
  subst eu e3
  refine thn (stp.run pins s3 σ H3 (fun o H4 => o = some (-1) ∧ H4 = H3) I3 ⟨1, rfl, -1, rfl, rfl, rfl⟩) fun vs s4 h4 => ?_
  obtain ⟨o, H4, I4, ps, eo, e4⟩ := h4
  subst eo e4
  have J : Inv X pins σ H4 { s4 with heap := s4.heap.push { cls := .type "slice", data := .fields #[vl, vu, vs] } } := I4.kept (t' := s4.toks) fun b ob q => Heap.get?_push_of_some _ q
  show wpAny (model X.prog X.w) X.A (subscriptTail e (.Slice none none (some (.UnaryOp .USub (.Constant (.int 1) k p1) p2)) p3) (.ref a) (.ref s4.heap.objs.size)) (EP X pins σ Q) X.xe { s4 with heap := s4.heap.push { cls := .type "slice", data := .fields #[vl, vu, vs] } }
  rcases q with ⟨hx, q⟩ | ⟨hx, q⟩
  · obtain ⟨its, r, isL, small⟩ := J.list hx
    have len := r.length
    refine tail_any (ops := [.ref a, .ref s4.heap.objs.size]) isL.isList.typeIs (PySem.slot_list_getitem.lookup) (wpAny_getItem_list_slice isL.isList (Heap.IsSliceOf.new _ vl vu vs) pl pu ps (by decide) ?_ (by rw [List.size_toArray]; omega)) (by with_unfolding_all rfl)
    rw [PySem.W.krv_pick]
    refine ⟨.ref _, _, J.laid (t' := s4.toks) (o := .lst xs.reverse) (fun b ob q => Heap.get?_push_of_some _ q) (Nat.le_refl _) ?_, rfl, q _ (J.hok.fresh (Nat.le_refl _))⟩
    exact ⟨by rw [List.length_reverse]; exact small, _, 0, r.reverse, Heap.get?_push_size _ rfl⟩
  · obtain ⟨its, r, isT, small⟩ := J.tuple hx
    have len := r.length
    cases pl
    cases pu
    cases ps with
    | int i t =>
      refine tail_any (ops := [.ref a, .ref s4.heap.objs.size]) isT.typeIs PyProof.Rows.slot_tuple_getitem.lookup (itemBack isT (Heap.IsSliceOf.new _ _ _ _) (by rw [List.size_toArray]; omega) ?_) (by with_unfolding_all rfl)
      refine ⟨.ref _, _, J.laid (t' := s4.toks) (o := .tup xs.reverse) (fun b ob q => Heap.get?_push_of_some _ q) (Nat.le_refl _) ?_, rfl, q _ (J.hok.fresh (Nat.le_refl _))⟩
      exact ⟨by rw [List.length_reverse]; exact small, _, r.reverse, IsTup.new _ _⟩
def fRevV : F1
  | .lst ds, k => k (.ow ds.reverse)
  | .tup ds, k => k (.sh (.tup ds.reverse))
  | _, _ => False
theorem fRevV_mono : F1.Mono fRevV := by
  intro d k k' hk h
  unfold fRevV at h ⊢
  split at h
  · exact hk _ h
  · exact hk _ h
  · exact h.elim
theorem ve_revV {X : Cx} {G : Gh} {e : Expr} {pa : OpP} {k : Nat} {p1 p2 p3 pos : Pos} (ha : VO X G e pa) : VE X G (.Subscript e (.Slice none none (some (.UnaryOp .USub (.Constant (.int 1) k p1) p2)) p3) pos) (vUn fRevV pa) := by
  refine ⟨vUn_mono fRevV_mono ha.mono, fun We tk => (pe_revV (ha.run We tk)).weak fun σ H Q ⟨hs, ρ, O, st, z⟩ => ?_⟩
  refine ⟨hs, ρ, O, st, ha.mono ρ _ _ _ _ (fun av r z v H1 O1 st1 rv => ?_) (fun _ _ _ w => w) z⟩
  split at z
  · rename_i d hd
    have vw := st1.view rv hd
    unfold fRevV at z
    split at z
    · obtain ⟨a, xs, rfl, t, rr⟩ := view_lst vw
      refine ⟨a, xs, rfl, .inl ⟨t, fun p hp => ?_⟩⟩
      obtain ⟨st', r'⟩ := st1.resLst hp rr.rev
      exact z _ _ _ st' r'
    · obtain ⟨a, xs, rfl, t, rr⟩ := view_tup vw
      refine ⟨a, xs, rfl, .inr ⟨t.sq, fun p hp => ?_⟩⟩
      obtain ⟨st', r'⟩ := st1.resTup hp rr.rev
      exact z _ _ _ st' r'
    · exact z.elim
  · exact z.elim
end Vx

namespace Vx
open PySem PySem.Spec PyProof.Rows L2

/-! ### comprehensions of often met forms -/
/-- the places from k on where no True stands -/
def idx : Int → List Bool → List Int
  | _, [] => []
  | k, b :: bs => if b = true then idx (k + 1) bs else k :: idx (k + 1) bs
theorem idx_append : ∀ (as bs : List Bool) (k : Int), idx k (as ++ bs) = idx k as ++ idx (k + as.length) bs
  | [], bs, k => by simp [idx]
  | a :: as, bs, k => by
    have ih := idx_append as bs (k + 1)
    have e : k + 1 + (as.length : Int) = k + ((a :: as).length : Int) := by rw [List.length_cons]; omega
    rw [e] at ih
    show (if a = true then idx (k + 1) (as ++ bs) else k :: idx (k + 1) (as ++ bs)) = (if a = true then idx (k + 1) as else k :: idx (k + 1) as) ++ _
    split
    · exact ih
    · rw [ih]; rfl
theorem idx_len : ∀ (bs : List Bool) (k : Int), (idx k bs).length ≤ bs.length
  | [], k => Nat.le_refl _
  | b :: bs, k => by
    unfold idx
    have := idx_len bs (k + 1)
    split
    · rw [List.length_cons]; omega
    · rw [List.length_cons, List.length_cons]; omega
theorem ints_cons (lo : Int) (n : Nat) : Vx.intsFrom lo (n + 1) = .int lo :: Vx.intsFrom (lo + 1) n := by
  unfold Vx.intsFrom
  rw [List.range_succ_eq_map, List.map_cons, List.map_map]
  congr 1
  · simp
  · apply List.map_congr_left
    intro i _
    show D.int (lo + ((i + 1 : Nat) : Int)) = D.int (lo + 1 + (i : Int))
    congr 1
    omega
theorem ints_len (lo : Int) (n : Nat) : (Vx.intsFrom lo n).length = n := by unfold Vx.intsFrom; rw [List.length_map, List.length_range]
theorem slot_set {ρ : Env} {v : Nat} {x : Option SV} (hv : v < ρ.length) : slotOf (ρ.set v x) v = x := by
  unfold slotOf
  rw [List.getElem?_set_self hv]
  rfl
/-- [k for k in range(n) if not ..], the test a look -/
theorem comp_idx {v : Nat} {tt : PTv} {ρ : Env} {bs : List Bool} {k : List D → Env → Prop} (hv : v < ρ.length) (hw : ρ.set v none = ρ)
    (ht : ∀ (i : Nat) (b : Bool), bs[i]? = some b → ∀ K : Bool → Env → Prop, K (!b) (ρ.set v (some (.sh (.int i)))) → tt (ρ.set v (some (.sh (.int i)))) K noW)
    (hl : bs.length < 1000000) (h : k ((idx 0 bs).map .int) ρ) : lcL [v] (vgName v) tt (vVar v) (Vx.intsFrom 0 bs.length) [] ρ k := by
  have hwipe : ∀ x, wipeE (ρ.set v x) [v] = ρ := fun x => by
    show (ρ.set v x).set v none = ρ
    rw [List.set_set, hw]
  refine lcL_ind (fun rest acc r => ∃ as cs : List Bool, bs = as ++ cs ∧ rest = Vx.intsFrom (as.length : Int) cs.length ∧ acc = (idx 0 as).map D.int ∧ r = ρ) (fun d ds acc r N hI hN => ?_) (fun acc r hI => ?_) _ _ _ ⟨[], bs, rfl, rfl, rfl, rfl⟩
  · obtain ⟨as, cs, e1, e2, e3, rfl⟩ := hI
    cases cs with
    | nil => cases e2
    | cons b cs =>
      rw [List.length_cons, ints_cons] at e2
      cases e2
      have eb : bs[as.length]? = some b := by rw [e1, List.getElem?_append_right (Nat.le_refl _), Nat.sub_self]; rfl
      refine ht as.length b eb _ ?_
      have one : idx 0 (as ++ [b]) = if b = true then idx 0 as else idx 0 as ++ [(as.length : Int)] := by
        rw [idx_append, Int.zero_add]
        cases b
        · rfl
        · exact List.append_nil _
      have el : Vx.intsFrom ((as.length : Int) + 1) cs.length = Vx.intsFrom ((as ++ [b]).length : Int) cs.length := by
        rw [List.length_append, List.length_singleton]
        rfl
      cases b with
      | true =>
        rw [if_pos rfl] at one
        rw [if_neg (by decide)]
        rw [hwipe]
        exact hN _ _ ⟨as ++ [true], cs, by rw [e1, List.append_assoc]; rfl, el, by rw [e3, one], rfl⟩
      | false =>
        rw [if_neg (by decide)] at one
        rw [if_pos (by decide)]
        unfold vVar vRd
        rw [slot_set hv]
        refine ⟨?_, ?_⟩
        · have q1 := idx_len as 0
          have q2 : as.length ≤ bs.length := by rw [e1, List.length_append]; omega
          rw [e3, List.length_map]
          omega
        · rw [hwipe]
          exact hN _ _ ⟨as ++ [false], cs, by rw [e1, List.append_assoc]; rfl, el, by rw [e3, one, List.map_append]; rfl, rfl⟩
  · obtain ⟨as, cs, e1, e2, e3, rfl⟩ := hI
    have : cs = [] := by
      cases cs with
      | nil => rfl
      | cons b cs => rw [List.length_cons, ints_cons] at e2; cases e2
    subst this
    rw [List.append_nil] at e1
    subst e1
    rw [e3]
    exact h
/-- [e for x in xs], e a look -/
theorem comp_map {v : Nat} {body : PEv} {ρ : Env} {α : Type} {xs : List α} {f g : α → D} {k : List D → Env → Prop} (hw : ρ.set v none = ρ)
    (hb : ∀ x ∈ xs, ∀ Q : QV, (∀ sv, sv.fz = g x → Q sv (ρ.set v (some (.sh (f x))))) → body (ρ.set v (some (.sh (f x)))) Q noW)
    (hl : xs.length < 16777216) (h : k (xs.map g) ρ) : lcL [v] (vgName v) vtYes body (xs.map f) [] ρ k := by
  have hwipe : ∀ x, wipeE (ρ.set v x) [v] = ρ := fun x => by
    show (ρ.set v x).set v none = ρ
    rw [List.set_set, hw]
  refine lcL_ind (fun rest acc r => ∃ as cs : List α, xs = as ++ cs ∧ rest = cs.map f ∧ acc = as.map g ∧ r = ρ) (fun d ds acc r N hI hN => ?_) (fun acc r hI => ?_) _ _ _ ⟨[], xs, rfl, rfl, rfl, rfl⟩
  · obtain ⟨as, cs, e1, e2, e3, rfl⟩ := hI
    cases cs with
    | nil => cases e2
    | cons c cs =>
      cases e2
      refine hb c (by rw [e1]; exact List.mem_append_right _ List.mem_cons_self) _ fun sv e => ?_
      refine ⟨?_, ?_⟩
      · rw [e3, List.length_map]
        have : as.length ≤ xs.length := by rw [e1, List.length_append]; omega
        omega
      · rw [hwipe, e, e3]
        exact hN _ _ ⟨as ++ [c], cs, by rw [e1, List.append_assoc]; rfl, rfl, by rw [List.map_append]; rfl, rfl⟩
  · obtain ⟨as, cs, e1, e2, e3, rfl⟩ := hI
    have : cs = [] := by
      cases cs with
      | nil => rfl
      | cons b cs => cases e2
    subst this
    rw [List.append_nil] at e1
    subst e1
    rw [e3]
    exact h
end Vx

namespace Vx
open PySem PySem.Spec PyProof.Rows L2

/-! ### < of data of one shape -/
def rLtD (K : PySem.W.Frag) : R2 := fun x y H Q => ∃ d e, Dp K H x d ∧ Dp K H y e ∧ PySem.W.alike d e = true ∧ d ≠ .none ∧ d.depth ≤ 64 ∧ Q (.bl (PySem.W.dataLt d e)) H
theorem op_ltD {X : Cx} (hu : X.A.units + 64 < cLine) : OpR X (compareOp .Lt) (rLtD X.K) := by
  intro pins s σ H x y v u Q I rx ry h
  obtain ⟨d, e, hd, he, sd, hn, hk, q⟩ := h
  obtain ⟨as, r1⟩ := Dp.reads I d x v hd rx
  obtain ⟨bs, r2⟩ := Dp.reads I e y u he ry
  exact PySem.W.lt_data r1 r2 sd hn (by omega) ⟨.bl _, H, I, rfl, q⟩
def fLtD : F2
  | .int i, .int j, k => k (.sh (.bl (decide (i < j))))
  | .tup a, .tup b, k => D.plainL a = true ∧ D.plainL b = true ∧ (D.tup a).depth ≤ 64 ∧ PySem.W.alike (D.tup a).py (D.tup b).py = true ∧ k (.sh (.bl (PySem.W.dataLt (D.tup a).py (D.tup b).py)))
  | _, _, _ => False
theorem fLtD_mono : F2.Mono fLtD := by
  intro d e k k' hk h
  unfold fLtD at h ⊢
  split at h
  · exact hk _ h
  · exact ⟨h.1, h.2.1, h.2.2.1, h.2.2.2.1, hk _ h.2.2.2.2⟩
  · exact h.elim
section
variable {X : Cx} {G : Gh}
theorem ov_ltD : OpV X G (fun x y H Q => rI0 (fun i j => .bl (decide (i < j))) x y H Q ∨ rLtD X.K x y H Q) fLtD := by
  intro σ hs ρ O H x y d e Q st vx vy hf
  unfold fLtD at hf
  split at hf
  · rw [view_int vx, view_int vy]
    exact .inl ⟨_, _, rfl, rfl, hf _ H O st res_bl⟩
  · obtain ⟨h1, h2, h3, h4, hf⟩ := hf
    exact .inr ⟨_, _, vx.dp h1, vy.dp h2, h4, (fun z => by cases z), h3, hf _ H O st res_bl⟩
  · exact hf.elim
end
theorem dataLt_ints2 {p : Int} {w : Str} {n m : Int} : PySem.W.dataLt (D.tup [.int p, .str w, .int n]).py (D.tup [.int p, .str w, .int m]).py = decide (n < m) := by
  have e1 : PySem.W.alike (.int p) (.int p) = true := by simp [PySem.W.alike]
  have e2 : PySem.W.alike (.str w) (.str w) = true := by simp [PySem.W.alike]
  have e3 : PySem.W.alike (.int n) (.int m) = true := by simp [PySem.W.alike]
  refine (PySem.W.dataLt_tuple _ _).trans ?_
  simp only [D.pyL, D.py]
  refine (PySem.W.dataLt_all_yes e1 (by simp [PyData.eqv])).trans ?_
  refine (PySem.W.dataLt_all_yes e2 (by simp [PyData.eqv])).trans ?_
  by_cases h : n = m
  · subst h
    refine (PySem.W.dataLt_all_yes e3 (by simp [PyData.eqv])).trans ?_
    exact (lex_irrefl _).trans (by simp)
  · exact (PySem.W.dataLt_all_no e3 (by simp [PyData.eqv, h])).trans (PySem.W.dataLt_int n m)
end Vx

namespace Vx
open PySem PySem.Spec PyProof.Rows L2

/-! ### the readings' equations, from the outside in: what is not known yet stays untouched -/
def optK {α : Type} (o : Option α) (k : α → Prop) : Prop := match o with
  | some d => k d
  | none => False
theorem optK_some {α : Type} {d : α} {k : α → Prop} : optK (some d) k = k d := rfl
def intK : D → (Int → Prop) → Prop
  | .int i, k => k i
  | _, _ => False
theorem intK_int {i : Int} {k : Int → Prop} : intK (.int i) k = k i := rfl
def seqK : D → (List D → Prop) → Prop
  | .lst ds, k => k ds
  | .tup ds, k => k ds
  | _, _ => False
theorem seqK_lst {ds : List D} {k : List D → Prop} : seqK (.lst ds) k = k ds := rfl
theorem seqK_tup {ds : List D} {k : List D → Prop} : seqK (.tup ds) k = k ds := rfl
def lstK : D → (List D → Prop) → Prop
  | .lst ds, k => k ds
  | _, _ => False
theorem lstK_lst {ds : List D} {k : List D → Prop} : lstK (.lst ds) k = k ds := rfl
def setK (ρ : Env) (i : Nat) (x : Option SV) (k : Env → Prop) : Prop := k (ρ.set i x)
theorem optS_0 {sv : SV} {t : Env} {k : SV → Prop} : optK (slotOf (some sv :: t) 0) k = k sv := rfl
theorem setK_0 {o x : Option SV} {t : Env} {k : Env → Prop} : setK (o :: t) 0 x k = k (x :: t) := rfl
theorem optS_1 {o0 : Option SV} {sv : SV} {t : Env} {k : SV → Prop} : optK (slotOf (o0 :: some sv :: t) 1) k = k sv := rfl
theorem setK_1 {o0 : Option SV} {o x : Option SV} {t : Env} {k : Env → Prop} : setK (o0 :: o :: t) 1 x k = k (o0 :: x :: t) := rfl
theorem optS_2 {o0 o1 : Option SV} {sv : SV} {t : Env} {k : SV → Prop} : optK (slotOf (o0 :: o1 :: some sv :: t) 2) k = k sv := rfl
theorem setK_2 {o0 o1 : Option SV} {o x : Option SV} {t : Env} {k : Env → Prop} : setK (o0 :: o1 :: o :: t) 2 x k = k (o0 :: o1 :: x :: t) := rfl
theorem optS_3 {o0 o1 o2 : Option SV} {sv : SV} {t : Env} {k : SV → Prop} : optK (slotOf (o0 :: o1 :: o2 :: some sv :: t) 3) k = k sv := rfl
theorem setK_3 {o0 o1 o2 : Option SV} {o x : Option SV} {t : Env} {k : Env → Prop} : setK (o0 :: o1 :: o2 :: o :: t) 3 x k = k (o0 :: o1 :: o2 :: x :: t) := rfl
theorem optS_4 {o0 o1 o2 o3 : Option SV} {sv : SV} {t : Env} {k : SV → Prop} : optK (slotOf (o0 :: o1 :: o2 :: o3 :: some sv :: t) 4) k = k sv := rfl
theorem setK_4 {o0 o1 o2 o3 : Option SV} {o x : Option SV} {t : Env} {k : Env → Prop} : setK (o0 :: o1 :: o2 :: o3 :: o :: t) 4 x k = k (o0 :: o1 :: o2 :: o3 :: x :: t) := rfl
theorem optS_5 {o0 o1 o2 o3 o4 : Option SV} {sv : SV} {t : Env} {k : SV → Prop} : optK (slotOf (o0 :: o1 :: o2 :: o3 :: o4 :: some sv :: t) 5) k = k sv := rfl
theorem setK_5 {o0 o1 o2 o3 o4 : Option SV} {o x : Option SV} {t : Env} {k : Env → Prop} : setK (o0 :: o1 :: o2 :: o3 :: o4 :: o :: t) 5 x k = k (o0 :: o1 :: o2 :: o3 :: o4 :: x :: t) := rfl
theorem optS_6 {o0 o1 o2 o3 o4 o5 : Option SV} {sv : SV} {t : Env} {k : SV → Prop} : optK (slotOf (o0 :: o1 :: o2 :: o3 :: o4 :: o5 :: some sv :: t) 6) k = k sv := rfl
theorem setK_6 {o0 o1 o2 o3 o4 o5 : Option SV} {o x : Option SV} {t : Env} {k : Env → Prop} : setK (o0 :: o1 :: o2 :: o3 :: o4 :: o5 :: o :: t) 6 x k = k (o0 :: o1 :: o2 :: o3 :: o4 :: o5 :: x :: t) := rfl
theorem optS_7 {o0 o1 o2 o3 o4 o5 o6 : Option SV} {sv : SV} {t : Env} {k : SV → Prop} : optK (slotOf (o0 :: o1 :: o2 :: o3 :: o4 :: o5 :: o6 :: some sv :: t) 7) k = k sv := rfl
theorem setK_7 {o0 o1 o2 o3 o4 o5 o6 : Option SV} {o x : Option SV} {t : Env} {k : Env → Prop} : setK (o0 :: o1 :: o2 :: o3 :: o4 :: o5 :: o6 :: o :: t) 7 x k = k (o0 :: o1 :: o2 :: o3 :: o4 :: o5 :: o6 :: x :: t) := rfl
theorem optS_8 {o0 o1 o2 o3 o4 o5 o6 o7 : Option SV} {sv : SV} {t : Env} {k : SV → Prop} : optK (slotOf (o0 :: o1 :: o2 :: o3 :: o4 :: o5 :: o6 :: o7 :: some sv :: t) 8) k = k sv := rfl
theorem setK_8 {o0 o1 o2 o3 o4 o5 o6 o7 : Option SV} {o x : Option SV} {t : Env} {k : Env → Prop} : setK (o0 :: o1 :: o2 :: o3 :: o4 :: o5 :: o6 :: o7 :: o :: t) 8 x k = k (o0 :: o1 :: o2 :: o3 :: o4 :: o5 :: o6 :: o7 :: x :: t) := rfl
theorem optS_9 {o0 o1 o2 o3 o4 o5 o6 o7 o8 : Option SV} {sv : SV} {t : Env} {k : SV → Prop} : optK (slotOf (o0 :: o1 :: o2 :: o3 :: o4 :: o5 :: o6 :: o7 :: o8 :: some sv :: t) 9) k = k sv := rfl
theorem setK_9 {o0 o1 o2 o3 o4 o5 o6 o7 o8 : Option SV} {o x : Option SV} {t : Env} {k : Env → Prop} : setK (o0 :: o1 :: o2 :: o3 :: o4 :: o5 :: o6 :: o7 :: o8 :: o :: t) 9 x k = k (o0 :: o1 :: o2 :: o3 :: o4 :: o5 :: o6 :: o7 :: o8 :: x :: t) := rfl
theorem optS_10 {o0 o1 o2 o3 o4 o5 o6 o7 o8 o9 : Option SV} {sv : SV} {t : Env} {k : SV → Prop} : optK (slotOf (o0 :: o1 :: o2 :: o3 :: o4 :: o5 :: o6 :: o7 :: o8 :: o9 :: some sv :: t) 10) k = k sv := rfl
theorem setK_10 {o0 o1 o2 o3 o4 o5 o6 o7 o8 o9 : Option SV} {o x : Option SV} {t : Env} {k : Env → Prop} : setK (o0 :: o1 :: o2 :: o3 :: o4 :: o5 :: o6 :: o7 :: o8 :: o9 :: o :: t) 10 x k = k (o0 :: o1 :: o2 :: o3 :: o4 :: o5 :: o6 :: o7 :: o8 :: o9 :: x :: t) := rfl
theorem optS_11 {o0 o1 o2 o3 o4 o5 o6 o7 o8 o9 o10 : Option SV} {sv : SV} {t : Env} {k : SV → Prop} : optK (slotOf (o0 :: o1 :: o2 :: o3 :: o4 :: o5 :: o6 :: o7 :: o8 :: o9 :: o10 :: some sv :: t) 11) k = k sv := rfl
theorem setK_11 {o0 o1 o2 o3 o4 o5 o6 o7 o8 o9 o10 : Option SV} {o x : Option SV} {t : Env} {k : Env → Prop} : setK (o0 :: o1 :: o2 :: o3 :: o4 :: o5 :: o6 :: o7 :: o8 :: o9 :: o10 :: o :: t) 11 x k = k (o0 :: o1 :: o2 :: o3 :: o4 :: o5 :: o6 :: o7 :: o8 :: o9 :: o10 :: x :: t) := rfl
theorem optS_12 {o0 o1 o2 o3 o4 o5 o6 o7 o8 o9 o10 o11 : Option SV} {sv : SV} {t : Env} {k : SV → Prop} : optK (slotOf (o0 :: o1 :: o2 :: o3 :: o4 :: o5 :: o6 :: o7 :: o8 :: o9 :: o10 :: o11 :: some sv :: t) 12) k = k sv := rfl
theorem setK_12 {o0 o1 o2 o3 o4 o5 o6 o7 o8 o9 o10 o11 : Option SV} {o x : Option SV} {t : Env} {k : Env → Prop} : setK (o0 :: o1 :: o2 :: o3 :: o4 :: o5 :: o6 :: o7 :: o8 :: o9 :: o10 :: o11 :: o :: t) 12 x k = k (o0 :: o1 :: o2 :: o3 :: o4 :: o5 :: o6 :: o7 :: o8 :: o9 :: o10 :: o11 :: x :: t) := rfl
theorem optS_13 {o0 o1 o2 o3 o4 o5 o6 o7 o8 o9 o10 o11 o12 : Option SV} {sv : SV} {t : Env} {k : SV → Prop} : optK (slotOf (o0 :: o1 :: o2 :: o3 :: o4 :: o5 :: o6 :: o7 :: o8 :: o9 :: o10 :: o11 :: o12 :: some sv :: t) 13) k = k sv := rfl
theorem setK_13 {o0 o1 o2 o3 o4 o5 o6 o7 o8 o9 o10 o11 o12 : Option SV} {o x : Option SV} {t : Env} {k : Env → Prop} : setK (o0 :: o1 :: o2 :: o3 :: o4 :: o5 :: o6 :: o7 :: o8 :: o9 :: o10 :: o11 :: o12 :: o :: t) 13 x k = k (o0 :: o1 :: o2 :: o3 :: o4 :: o5 :: o6 :: o7 :: o8 :: o9 :: o10 :: o11 :: o12 :: x :: t) := rfl
theorem optS_14 {o0 o1 o2 o3 o4 o5 o6 o7 o8 o9 o10 o11 o12 o13 : Option SV} {sv : SV} {t : Env} {k : SV → Prop} : optK (slotOf (o0 :: o1 :: o2 :: o3 :: o4 :: o5 :: o6 :: o7 :: o8 :: o9 :: o10 :: o11 :: o12 :: o13 :: some sv :: t) 14) k = k sv := rfl
theorem setK_14 {o0 o1 o2 o3 o4 o5 o6 o7 o8 o9 o10 o11 o12 o13 : Option SV} {o x : Option SV} {t : Env} {k : Env → Prop} : setK (o0 :: o1 :: o2 :: o3 :: o4 :: o5 :: o6 :: o7 :: o8 :: o9 :: o10 :: o11 :: o12 :: o13 :: o :: t) 14 x k = k (o0 :: o1 :: o2 :: o3 :: o4 :: o5 :: o6 :: o7 :: o8 :: o9 :: o10 :: o11 :: o12 :: o13 :: x :: t) := rfl
theorem optS_15 {o0 o1 o2 o3 o4 o5 o6 o7 o8 o9 o10 o11 o12 o13 o14 : Option SV} {sv : SV} {t : Env} {k : SV → Prop} : optK (slotOf (o0 :: o1 :: o2 :: o3 :: o4 :: o5 :: o6 :: o7 :: o8 :: o9 :: o10 :: o11 :: o12 :: o13 :: o14 :: some sv :: t) 15) k = k sv := rfl
theorem setK_15 {o0 o1 o2 o3 o4 o5 o6 o7 o8 o9 o10 o11 o12 o13 o14 : Option SV} {o x : Option SV} {t : Env} {k : Env → Prop} : setK (o0 :: o1 :: o2 :: o3 :: o4 :: o5 :: o6 :: o7 :: o8 :: o9 :: o10 :: o11 :: o12 :: o13 :: o14 :: o :: t) 15 x k = k (o0 :: o1 :: o2 :: o3 :: o4 :: o5 :: o6 :: o7 :: o8 :: o9 :: o10 :: o11 :: o12 :: o13 :: o14 :: x :: t) := rfl
theorem optS_16 {o0 o1 o2 o3 o4 o5 o6 o7 o8 o9 o10 o11 o12 o13 o14 o15 : Option SV} {sv : SV} {t : Env} {k : SV → Prop} : optK (slotOf (o0 :: o1 :: o2 :: o3 :: o4 :: o5 :: o6 :: o7 :: o8 :: o9 :: o10 :: o11 :: o12 :: o13 :: o14 :: o15 :: some sv :: t) 16) k = k sv := rfl
theorem setK_16 {o0 o1 o2 o3 o4 o5 o6 o7 o8 o9 o10 o11 o12 o13 o14 o15 : Option SV} {o x : Option SV} {t : Env} {k : Env → Prop} : setK (o0 :: o1 :: o2 :: o3 :: o4 :: o5 :: o6 :: o7 :: o8 :: o9 :: o10 :: o11 :: o12 :: o13 :: o14 :: o15 :: o :: t) 16 x k = k (o0 :: o1 :: o2 :: o3 :: o4 :: o5 :: o6 :: o7 :: o8 :: o9 :: o10 :: o11 :: o12 :: o13 :: o14 :: o15 :: x :: t) := rfl
theorem optS_17 {o0 o1 o2 o3 o4 o5 o6 o7 o8 o9 o10 o11 o12 o13 o14 o15 o16 : Option SV} {sv : SV} {t : Env} {k : SV → Prop} : optK (slotOf (o0 :: o1 :: o2 :: o3 :: o4 :: o5 :: o6 :: o7 :: o8 :: o9 :: o10 :: o11 :: o12 :: o13 :: o14 :: o15 :: o16 :: some sv :: t) 17) k = k sv := rfl
theorem setK_17 {o0 o1 o2 o3 o4 o5 o6 o7 o8 o9 o10 o11 o12 o13 o14 o15 o16 : Option SV} {o x : Option SV} {t : Env} {k : Env → Prop} : setK (o0 :: o1 :: o2 :: o3 :: o4 :: o5 :: o6 :: o7 :: o8 :: o9 :: o10 :: o11 :: o12 :: o13 :: o14 :: o15 :: o16 :: o :: t) 17 x k = k (o0 :: o1 :: o2 :: o3 :: o4 :: o5 :: o6 :: o7 :: o8 :: o9 :: o10 :: o11 :: o12 :: o13 :: o14 :: o15 :: o16 :: x :: t) := rfl
theorem optS_18 {o0 o1 o2 o3 o4 o5 o6 o7 o8 o9 o10 o11 o12 o13 o14 o15 o16 o17 : Option SV} {sv : SV} {t : Env} {k : SV → Prop} : optK (slotOf (o0 :: o1 :: o2 :: o3 :: o4 :: o5 :: o6 :: o7 :: o8 :: o9 :: o10 :: o11 :: o12 :: o13 :: o14 :: o15 :: o16 :: o17 :: some sv :: t) 18) k = k sv := rfl
theorem setK_18 {o0 o1 o2 o3 o4 o5 o6 o7 o8 o9 o10 o11 o12 o13 o14 o15 o16 o17 : Option SV} {o x : Option SV} {t : Env} {k : Env → Prop} : setK (o0 :: o1 :: o2 :: o3 :: o4 :: o5 :: o6 :: o7 :: o8 :: o9 :: o10 :: o11 :: o12 :: o13 :: o14 :: o15 :: o16 :: o17 :: o :: t) 18 x k = k (o0 :: o1 :: o2 :: o3 :: o4 :: o5 :: o6 :: o7 :: o8 :: o9 :: o10 :: o11 :: o12 :: o13 :: o14 :: o15 :: o16 :: o17 :: x :: t) := rfl
theorem optS_19 {o0 o1 o2 o3 o4 o5 o6 o7 o8 o9 o10 o11 o12 o13 o14 o15 o16 o17 o18 : Option SV} {sv : SV} {t : Env} {k : SV → Prop} : optK (slotOf (o0 :: o1 :: o2 :: o3 :: o4 :: o5 :: o6 :: o7 :: o8 :: o9 :: o10 :: o11 :: o12 :: o13 :: o14 :: o15 :: o16 :: o17 :: o18 :: some sv :: t) 19) k = k sv := rfl
theorem setK_19 {o0 o1 o2 o3 o4 o5 o6 o7 o8 o9 o10 o11 o12 o13 o14 o15 o16 o17 o18 : Option SV} {o x : Option SV} {t : Env} {k : Env → Prop} : setK (o0 :: o1 :: o2 :: o3 :: o4 :: o5 :: o6 :: o7 :: o8 :: o9 :: o10 :: o11 :: o12 :: o13 :: o14 :: o15 :: o16 :: o17 :: o18 :: o :: t) 19 x k = k (o0 :: o1 :: o2 :: o3 :: o4 :: o5 :: o6 :: o7 :: o8 :: o9 :: o10 :: o11 :: o12 :: o13 :: o14 :: o15 :: o16 :: o17 :: o18 :: x :: t) := rfl
theorem optS_20 {o0 o1 o2 o3 o4 o5 o6 o7 o8 o9 o10 o11 o12 o13 o14 o15 o16 o17 o18 o19 : Option SV} {sv : SV} {t : Env} {k : SV → Prop} : optK (slotOf (o0 :: o1 :: o2 :: o3 :: o4 :: o5 :: o6 :: o7 :: o8 :: o9 :: o10 :: o11 :: o12 :: o13 :: o14 :: o15 :: o16 :: o17 :: o18 :: o19 :: some sv :: t) 20) k = k sv := rfl
theorem setK_20 {o0 o1 o2 o3 o4 o5 o6 o7 o8 o9 o10 o11 o12 o13 o14 o15 o16 o17 o18 o19 : Option SV} {o x : Option SV} {t : Env} {k : Env → Prop} : setK (o0 :: o1 :: o2 :: o3 :: o4 :: o5 :: o6 :: o7 :: o8 :: o9 :: o10 :: o11 :: o12 :: o13 :: o14 :: o15 :: o16 :: o17 :: o18 :: o19 :: o :: t) 20 x k = k (o0 :: o1 :: o2 :: o3 :: o4 :: o5 :: o6 :: o7 :: o8 :: o9 :: o10 :: o11 :: o12 :: o13 :: o14 :: o15 :: o16 :: o17 :: o18 :: o19 :: x :: t) := rfl
theorem optS_21 {o0 o1 o2 o3 o4 o5 o6 o7 o8 o9 o10 o11 o12 o13 o14 o15 o16 o17 o18 o19 o20 : Option SV} {sv : SV} {t : Env} {k : SV → Prop} : optK (slotOf (o0 :: o1 :: o2 :: o3 :: o4 :: o5 :: o6 :: o7 :: o8 :: o9 :: o10 :: o11 :: o12 :: o13 :: o14 :: o15 :: o16 :: o17 :: o18 :: o19 :: o20 :: some sv :: t) 21) k = k sv := rfl
theorem setK_21 {o0 o1 o2 o3 o4 o5 o6 o7 o8 o9 o10 o11 o12 o13 o14 o15 o16 o17 o18 o19 o20 : Option SV} {o x : Option SV} {t : Env} {k : Env → Prop} : setK (o0 :: o1 :: o2 :: o3 :: o4 :: o5 :: o6 :: o7 :: o8 :: o9 :: o10 :: o11 :: o12 :: o13 :: o14 :: o15 :: o16 :: o17 :: o18 :: o19 :: o20 :: o :: t) 21 x k = k (o0 :: o1 :: o2 :: o3 :: o4 :: o5 :: o6 :: o7 :: o8 :: o9 :: o10 :: o11 :: o12 :: o13 :: o14 :: o15 :: o16 :: o17 :: o18 :: o19 :: o20 :: x :: t) := rfl
theorem optS_22 {o0 o1 o2 o3 o4 o5 o6 o7 o8 o9 o10 o11 o12 o13 o14 o15 o16 o17 o18 o19 o20 o21 : Option SV} {sv : SV} {t : Env} {k : SV → Prop} : optK (slotOf (o0 :: o1 :: o2 :: o3 :: o4 :: o5 :: o6 :: o7 :: o8 :: o9 :: o10 :: o11 :: o12 :: o13 :: o14 :: o15 :: o16 :: o17 :: o18 :: o19 :: o20 :: o21 :: some sv :: t) 22) k = k sv := rfl
theorem setK_22 {o0 o1 o2 o3 o4 o5 o6 o7 o8 o9 o10 o11 o12 o13 o14 o15 o16 o17 o18 o19 o20 o21 : Option SV} {o x : Option SV} {t : Env} {k : Env → Prop} : setK (o0 :: o1 :: o2 :: o3 :: o4 :: o5 :: o6 :: o7 :: o8 :: o9 :: o10 :: o11 :: o12 :: o13 :: o14 :: o15 :: o16 :: o17 :: o18 :: o19 :: o20 :: o21 :: o :: t) 22 x k = k (o0 :: o1 :: o2 :: o3 :: o4 :: o5 :: o6 :: o7 :: o8 :: o9 :: o10 :: o11 :: o12 :: o13 :: o14 :: o15 :: o16 :: o17 :: o18 :: o19 :: o20 :: o21 :: x :: t) := rfl
theorem optS_23 {o0 o1 o2 o3 o4 o5 o6 o7 o8 o9 o10 o11 o12 o13 o14 o15 o16 o17 o18 o19 o20 o21 o22 : Option SV} {sv : SV} {t : Env} {k : SV → Prop} : optK (slotOf (o0 :: o1 :: o2 :: o3 :: o4 :: o5 :: o6 :: o7 :: o8 :: o9 :: o10 :: o11 :: o12 :: o13 :: o14 :: o15 :: o16 :: o17 :: o18 :: o19 :: o20 :: o21 :: o22 :: some sv :: t) 23) k = k sv := rfl
theorem setK_23 {o0 o1 o2 o3 o4 o5 o6 o7 o8 o9 o10 o11 o12 o13 o14 o15 o16 o17 o18 o19 o20 o21 o22 : Option SV} {o x : Option SV} {t : Env} {k : Env → Prop} : setK (o0 :: o1 :: o2 :: o3 :: o4 :: o5 :: o6 :: o7 :: o8 :: o9 :: o10 :: o11 :: o12 :: o13 :: o14 :: o15 :: o16 :: o17 :: o18 :: o19 :: o20 :: o21 :: o22 :: o :: t) 23 x k = k (o0 :: o1 :: o2 :: o3 :: o4 :: o5 :: o6 :: o7 :: o8 :: o9 :: o10 :: o11 :: o12 :: o13 :: o14 :: o15 :: o16 :: o17 :: o18 :: o19 :: o20 :: o21 :: o22 :: x :: t) := rfl
theorem optS_24 {o0 o1 o2 o3 o4 o5 o6 o7 o8 o9 o10 o11 o12 o13 o14 o15 o16 o17 o18 o19 o20 o21 o22 o23 : Option SV} {sv : SV} {t : Env} {k : SV → Prop} : optK (slotOf (o0 :: o1 :: o2 :: o3 :: o4 :: o5 :: o6 :: o7 :: o8 :: o9 :: o10 :: o11 :: o12 :: o13 :: o14 :: o15 :: o16 :: o17 :: o18 :: o19 :: o20 :: o21 :: o22 :: o23 :: some sv :: t) 24) k = k sv := rfl
theorem setK_24 {o0 o1 o2 o3 o4 o5 o6 o7 o8 o9 o10 o11 o12 o13 o14 o15 o16 o17 o18 o19 o20 o21 o22 o23 : Option SV} {o x : Option SV} {t : Env} {k : Env → Prop} : setK (o0 :: o1 :: o2 :: o3 :: o4 :: o5 :: o6 :: o7 :: o8 :: o9 :: o10 :: o11 :: o12 :: o13 :: o14 :: o15 :: o16 :: o17 :: o18 :: o19 :: o20 :: o21 :: o22 :: o23 :: o :: t) 24 x k = k (o0 :: o1 :: o2 :: o3 :: o4 :: o5 :: o6 :: o7 :: o8 :: o9 :: o10 :: o11 :: o12 :: o13 :: o14 :: o15 :: o16 :: o17 :: o18 :: o19 :: o20 :: o21 :: o22 :: o23 :: x :: t) := rfl
theorem optS_25 {o0 o1 o2 o3 o4 o5 o6 o7 o8 o9 o10 o11 o12 o13 o14 o15 o16 o17 o18 o19 o20 o21 o22 o23 o24 : Option SV} {sv : SV} {t : Env} {k : SV → Prop} : optK (slotOf (o0 :: o1 :: o2 :: o3 :: o4 :: o5 :: o6 :: o7 :: o8 :: o9 :: o10 :: o11 :: o12 :: o13 :: o14 :: o15 :: o16 :: o17 :: o18 :: o19 :: o20 :: o21 :: o22 :: o23 :: o24 :: some sv :: t) 25) k = k sv := rfl
theorem setK_25 {o0 o1 o2 o3 o4 o5 o6 o7 o8 o9 o10 o11 o12 o13 o14 o15 o16 o17 o18 o19 o20 o21 o22 o23 o24 : Option SV} {o x : Option SV} {t : Env} {k : Env → Prop} : setK (o0 :: o1 :: o2 :: o3 :: o4 :: o5 :: o6 :: o7 :: o8 :: o9 :: o10 :: o11 :: o12 :: o13 :: o14 :: o15 :: o16 :: o17 :: o18 :: o19 :: o20 :: o21 :: o22 :: o23 :: o24 :: o :: t) 25 x k = k (o0 :: o1 :: o2 :: o3 :: o4 :: o5 :: o6 :: o7 :: o8 :: o9 :: o10 :: o11 :: o12 :: o13 :: o14 :: o15 :: o16 :: o17 :: o18 :: o19 :: o20 :: o21 :: o22 :: o23 :: o24 :: x :: t) := rfl
theorem optS_26 {o0 o1 o2 o3 o4 o5 o6 o7 o8 o9 o10 o11 o12 o13 o14 o15 o16 o17 o18 o19 o20 o21 o22 o23 o24 o25 : Option SV} {sv : SV} {t : Env} {k : SV → Prop} : optK (slotOf (o0 :: o1 :: o2 :: o3 :: o4 :: o5 :: o6 :: o7 :: o8 :: o9 :: o10 :: o11 :: o12 :: o13 :: o14 :: o15 :: o16 :: o17 :: o18 :: o19 :: o20 :: o21 :: o22 :: o23 :: o24 :: o25 :: some sv :: t) 26) k = k sv := rfl
theorem setK_26 {o0 o1 o2 o3 o4 o5 o6 o7 o8 o9 o10 o11 o12 o13 o14 o15 o16 o17 o18 o19 o20 o21 o22 o23 o24 o25 : Option SV} {o x : Option SV} {t : Env} {k : Env → Prop} : setK (o0 :: o1 :: o2 :: o3 :: o4 :: o5 :: o6 :: o7 :: o8 :: o9 :: o10 :: o11 :: o12 :: o13 :: o14 :: o15 :: o16 :: o17 :: o18 :: o19 :: o20 :: o21 :: o22 :: o23 :: o24 :: o25 :: o :: t) 26 x k = k (o0 :: o1 :: o2 :: o3 :: o4 :: o5 :: o6 :: o7 :: o8 :: o9 :: o10 :: o11 :: o12 :: o13 :: o14 :: o15 :: o16 :: o17 :: o18 :: o19 :: o20 :: o21 :: o22 :: o23 :: o24 :: o25 :: x :: t) := rfl
theorem optS_27 {o0 o1 o2 o3 o4 o5 o6 o7 o8 o9 o10 o11 o12 o13 o14 o15 o16 o17 o18 o19 o20 o21 o22 o23 o24 o25 o26 : Option SV} {sv : SV} {t : Env} {k : SV → Prop} : optK (slotOf (o0 :: o1 :: o2 :: o3 :: o4 :: o5 :: o6 :: o7 :: o8 :: o9 :: o10 :: o11 :: o12 :: o13 :: o14 :: o15 :: o16 :: o17 :: o18 :: o19 :: o20 :: o21 :: o22 :: o23 :: o24 :: o25 :: o26 :: some sv :: t) 27) k = k sv := rfl
theorem setK_27 {o0 o1 o2 o3 o4 o5 o6 o7 o8 o9 o10 o11 o12 o13 o14 o15 o16 o17 o18 o19 o20 o21 o22 o23 o24 o25 o26 : Option SV} {o x : Option SV} {t : Env} {k : Env → Prop} : setK (o0 :: o1 :: o2 :: o3 :: o4 :: o5 :: o6 :: o7 :: o8 :: o9 :: o10 :: o11 :: o12 :: o13 :: o14 :: o15 :: o16 :: o17 :: o18 :: o19 :: o20 :: o21 :: o22 :: o23 :: o24 :: o25 :: o26 :: o :: t) 27 x k = k (o0 :: o1 :: o2 :: o3 :: o4 :: o5 :: o6 :: o7 :: o8 :: o9 :: o10 :: o11 :: o12 :: o13 :: o14 :: o15 :: o16 :: o17 :: o18 :: o19 :: o20 :: o21 :: o22 :: o23 :: o24 :: o25 :: o26 :: x :: t) := rfl
theorem optS_28 {o0 o1 o2 o3 o4 o5 o6 o7 o8 o9 o10 o11 o12 o13 o14 o15 o16 o17 o18 o19 o20 o21 o22 o23 o24 o25 o26 o27 : Option SV} {sv : SV} {t : Env} {k : SV → Prop} : optK (slotOf (o0 :: o1 :: o2 :: o3 :: o4 :: o5 :: o6 :: o7 :: o8 :: o9 :: o10 :: o11 :: o12 :: o13 :: o14 :: o15 :: o16 :: o17 :: o18 :: o19 :: o20 :: o21 :: o22 :: o23 :: o24 :: o25 :: o26 :: o27 :: some sv :: t) 28) k = k sv := rfl
theorem setK_28 {o0 o1 o2 o3 o4 o5 o6 o7 o8 o9 o10 o11 o12 o13 o14 o15 o16 o17 o18 o19 o20 o21 o22 o23 o24 o25 o26 o27 : Option SV} {o x : Option SV} {t : Env} {k : Env → Prop} : setK (o0 :: o1 :: o2 :: o3 :: o4 :: o5 :: o6 :: o7 :: o8 :: o9 :: o10 :: o11 :: o12 :: o13 :: o14 :: o15 :: o16 :: o17 :: o18 :: o19 :: o20 :: o21 :: o22 :: o23 :: o24 :: o25 :: o26 :: o27 :: o :: t) 28 x k = k (o0 :: o1 :: o2 :: o3 :: o4 :: o5 :: o6 :: o7 :: o8 :: o9 :: o10 :: o11 :: o12 :: o13 :: o14 :: o15 :: o16 :: o17 :: o18 :: o19 :: o20 :: o21 :: o22 :: o23 :: o24 :: o25 :: o26 :: o27 :: x :: t) := rfl
theorem optS_29 {o0 o1 o2 o3 o4 o5 o6 o7 o8 o9 o10 o11 o12 o13 o14 o15 o16 o17 o18 o19 o20 o21 o22 o23 o24 o25 o26 o27 o28 : Option SV} {sv : SV} {t : Env} {k : SV → Prop} : optK (slotOf (o0 :: o1 :: o2 :: o3 :: o4 :: o5 :: o6 :: o7 :: o8 :: o9 :: o10 :: o11 :: o12 :: o13 :: o14 :: o15 :: o16 :: o17 :: o18 :: o19 :: o20 :: o21 :: o22 :: o23 :: o24 :: o25 :: o26 :: o27 :: o28 :: some sv :: t) 29) k = k sv := rfl
theorem setK_29 {o0 o1 o2 o3 o4 o5 o6 o7 o8 o9 o10 o11 o12 o13 o14 o15 o16 o17 o18 o19 o20 o21 o22 o23 o24 o25 o26 o27 o28 : Option SV} {o x : Option SV} {t : Env} {k : Env → Prop} : setK (o0 :: o1 :: o2 :: o3 :: o4 :: o5 :: o6 :: o7 :: o8 :: o9 :: o10 :: o11 :: o12 :: o13 :: o14 :: o15 :: o16 :: o17 :: o18 :: o19 :: o20 :: o21 :: o22 :: o23 :: o24 :: o25 :: o26 :: o27 :: o28 :: o :: t) 29 x k = k (o0 :: o1 :: o2 :: o3 :: o4 :: o5 :: o6 :: o7 :: o8 :: o9 :: o10 :: o11 :: o12 :: o13 :: o14 :: o15 :: o16 :: o17 :: o18 :: o19 :: o20 :: o21 :: o22 :: o23 :: o24 :: o25 :: o26 :: o27 :: o28 :: x :: t) := rfl
def fzK (sv : SV) (k : D → Prop) : Prop := k sv.fz
theorem fzK_sh {d : D} {k : D → Prop} : fzK (.sh d) k = k d := rfl
theorem fzK_ow {ds : List D} {k : D → Prop} : fzK (.ow ds) k = k (.lst ds) := rfl
theorem fzK_mu {ds : List D} {k : D → Prop} : fzK (.mu ds) k = k (.lst ds) := rfl
theorem fzK_dc {a : Addr} {kvs : List (List L2.Key × D)} {k : D → Prop} : fzK (.dc a kvs) k = k (.ob a) := rfl
theorem fzK_bo {ds : List D} {k : D → Prop} : fzK (.bo ds) k = k (.lst ds) := rfl
def varK : SV → Nat → Env → QV → Prop
  | .sh d, _, ρ, Q => Q (.sh d) ρ
  | .ow ds, i, ρ, Q => setK ρ i (some (.sh (.lst ds))) fun r => Q (.sh (.lst ds)) r
  | _, _, _, _ => False
def moveK : SV → Nat → Env → QV → Prop
  | .sh d, _, ρ, Q => Q (.sh d) ρ
  | .ow ds, i, ρ, Q => setK ρ i none fun r => Q (.ow ds) r
  | .dc a kvs, i, ρ, Q => setK ρ i none fun r => Q (.dc a kvs) r
  | _, _, _, _ => False
def srcK : SV → Nat → Env → (List D → Env → Prop) → Prop
  | .sh (.lst ds), _, ρ, k => k ds ρ
  | .sh (.tup ds), _, ρ, k => k ds ρ
  | .ow ds, i, ρ, k => setK ρ i (some (.sh (.lst ds))) fun r => k ds r
  | .bo ds, _, ρ, k => k ds ρ
  | _, _, _, _ => False
def truK (d : D) (k : Bool → Prop) : Prop := (match d with
    | .str x => x.length ≤ 16777216
    | _ => True) ∧ (match d.tru with
    | some b => k b
    | none => False)
section
variable {ρ r : Env} {Q : QV} {W : WxV} {E : VEnds} {p q : PEv} {c c2 : PTv} {s t : PSv} {i j n : Nat} {d e : D} {ds es : List D} {pa pb pc : OpP} {ps qs : List OpP} {pes : List PEv} {k : AV → Env → Prop} {ks : List AV → Env → Prop} {kd : List D → Env → Prop} {kt : Bool → Env → Prop} {kb : Bool → Prop} {N : Env → Prop} {b : Bool}
theorem varK_sh : varK (.sh d) i ρ Q = Q (.sh d) ρ := rfl
theorem varK_ow : varK (.ow ds) i ρ Q = setK ρ i (some (.sh (.lst ds))) fun r => Q (.sh (.lst ds)) r := rfl
theorem moveK_sh : moveK (.sh d) i ρ Q = Q (.sh d) ρ := rfl
theorem moveK_dc {a : Addr} {kvs : List (List L2.Key × D)} : moveK (.dc a kvs) i ρ Q = setK ρ i none fun r => Q (.dc a kvs) r := rfl
theorem moveK_ow : moveK (.ow ds) i ρ Q = setK ρ i none fun r => Q (.ow ds) r := rfl
theorem srcK_lst : srcK (.sh (.lst ds)) i ρ kd = kd ds ρ := rfl
theorem srcK_tup : srcK (.sh (.tup ds)) i ρ kd = kd ds ρ := rfl
theorem srcK_ow : srcK (.ow ds) i ρ kd = setK ρ i (some (.sh (.lst ds))) fun r => kd ds r := rfl
theorem srcK_bo : srcK (.bo ds) i ρ kd = kd ds ρ := rfl
theorem truK_bl : truK (.bl b) kb = kb b := true_and _
theorem truK_int {i : Int} : truK (.int i) kb = kb (i != 0) := true_and _
theorem truK_tup : truK (.tup ds) kb = kb (!ds.isEmpty) := true_and _
theorem truK_lst : truK (.lst ds) kb = kb (!ds.isEmpty) := true_and _
theorem truK_non : truK .non kb = kb false := true_and _
theorem truK_str {x : Str} : truK (.str x) kb = (x.length ≤ 16777216 ∧ kb ((x.length : Int) != 0)) := rfl
theorem bl_K {k : Bool → Prop} : vBoolK (.sh (.bl b)) k = k b := rfl
/-! expressions -/
theorem vC_K : vC d ρ Q W = Q (.sh d) ρ := rfl
theorem vVar_K : vVar i ρ Q W = optK (slotOf ρ i) fun sv => varK sv i ρ Q := by
  unfold vVar vRd
  cases slotOf ρ i with
  | none => rfl
  | some sv => cases sv <;> rfl
theorem vMove_K : vMove i ρ Q W = optK (slotOf ρ i) fun sv => moveK sv i ρ Q := by
  unfold vMove vRd
  cases slotOf ρ i with
  | none => rfl
  | some sv => cases sv <;> rfl
theorem vOp_val : vOp (.val p) ρ k W = p ρ (fun sv r => fzK sv fun d => k (.v d) r) W := rfl
theorem vRd_K {k : SV → Prop} : vRd i ρ k = optK (slotOf ρ i) k := by
  unfold vRd
  cases slotOf ρ i <;> rfl
theorem vOp_rd : vOp (.rd i) ρ k W = optK (slotOf ρ i) fun _ => k (.b i) ρ := vRd_K
theorem vOp_mt : vOp (.mt i) ρ k W = optK (slotOf ρ i) fun _ => k (.m i) ρ := vRd_K
theorem vOps_nil : vOps [] ρ ks W = ks [] ρ := rfl
theorem vOps_cons : vOps (pa :: ps) ρ ks W = vOp pa ρ (fun a r => vOps ps r (fun as r2 => ks (a :: as) r2) W) W := rfl
theorem vVals_nil : vVals [] ρ kd W = kd [] ρ := rfl
theorem vVals_cons : vVals (p :: pes) ρ kd W = p ρ (fun sv r => fzK sv fun d => vVals pes r (fun ds r2 => kd (d :: ds) r2) W) W := rfl
theorem opt_eq {α : Type} {o : Option α} {k k2 : α → Prop} (h : ∀ a, k a = k2 a) : (match o with
  | some d => k d
  | none => False) = optK o k2 := by
  cases o with
  | none => rfl
  | some a => exact h a
theorem vUn_K {f : F1} : vUn f pa ρ Q W = vOp pa ρ (fun x r => optK (x.get r) fun d => f d fun sv => Q sv r) W := by
  unfold vUn
  congr 1
  funext x r
  cases x.get r <;> rfl
theorem vBin_K {f : F2} : vBin f pa pb ρ Q W = vOp pa ρ (fun x r => vOp pb r (fun y r2 => optK (x.get r2) fun d => optK (y.get r2) fun e => f d e fun sv => Q sv r2) W) W := by
  unfold vBin
  congr 1
  funext x r
  congr 1
  funext y r2
  cases x.get r2 <;> cases y.get r2 <;> rfl
theorem vCB_K {f : FN} : vCB f ps ρ Q W = vOps ps ρ (fun as r => optK (getAll r as) fun ds => f ds fun sv => Q sv r) W := by
  unfold vCB
  congr 1
  funext as r
  cases getAll r as <;> rfl
def consO {α : Type} : Option α → Option (List α) → Option (List α)
  | some d, some ds => some (d :: ds)
  | _, _ => none
theorem consO_some {α : Type} {d : α} {ds : List α} : consO (some d) (some ds) = some (d :: ds) := rfl
theorem getAll_nil {kl : List D → Prop} : optK (getAll ρ []) kl = kl [] := rfl
theorem getAll_cons0 {a : AV} {as : List AV} : getAll ρ (a :: as) = consO (a.get ρ) (getAll ρ as) := by
  show (match a.get ρ, getAll ρ as with
    | some d, some ds => some (d :: ds)
    | _, _ => none) = _
  cases a.get ρ <;> cases getAll ρ as <;> rfl
theorem getAll_cons {a : AV} {as : List AV} {kl : List D → Prop} : optK (getAll ρ (a :: as)) kl = optK (a.get ρ) fun d => optK (getAll ρ as) fun ds => kl (d :: ds) := by
  rw [getAll_cons0]
  cases a.get ρ <;> cases getAll ρ as <;> rfl
theorem get_v {kl : D → Prop} : optK (AV.get ρ (.v d)) kl = kl d := rfl
theorem get_b {kl : D → Prop} : optK (AV.get ρ (.b i)) kl = optK (slotOf ρ i) fun sv => fzK sv kl := by
  show optK ((slotOf ρ i).map SV.fz) kl = _
  cases slotOf ρ i <;> rfl
theorem vTup_K : vTup pes ρ Q W = vVals pes ρ (fun ds r => ds.length ≤ 16777216 ∧ Q (.sh (.tup ds)) r) W := rfl
theorem vLst_K : vLst pes ρ Q W = vVals pes ρ (fun ds r => ds.length ≤ 16777216 ∧ Q (.ow ds) r) W := rfl
theorem vPo_no {k : Option Int → Env → Prop} : vPo .no ρ k W = k none ρ := rfl
theorem vPo_at {k : Option Int → Env → Prop} : vPo (.at pa) ρ k W = vOp pa ρ (fun a r => optK (a.get r) fun d => intK d fun i => k (some i) r) W := by
  show vOp pa ρ (fun a r => match a.get r with
    | some (.int i) => k (some i) r
    | _ => False) W = _
  congr 1
  funext a r
  cases a.get r with
  | none => rfl
  | some d => cases d <;> rfl
theorem vSl_K {pl ph : PoP} : vSl pa pl ph ρ Q W = vOp pa ρ (fun a r => vPo pl r (fun lo r2 => vPo ph r2 (fun hi r3 => optK (a.get r3) fun d => fSl d lo hi fun sv => Q sv r3) W) W) W := by
  unfold vSl
  congr 1
  funext a r
  congr 1
  funext lo r2
  congr 1
  funext hi r3
  cases a.get r3 <;> rfl
theorem vTest_K : vTest p ρ kt W = p ρ (fun sv r => vBoolK sv fun b => kt b r) W := by
  unfold vTest
  congr 1
theorem vTru_K : vTru pa ρ kt W = vOp pa ρ (fun a r => optK (a.get r) fun d => truK d fun b => kt b r) W := by
  unfold vTru
  congr 1
  funext a r
  cases a.get r <;> rfl
theorem vNot_K : vNot c ρ kt W = c ρ (fun b r => kt (!b) r) W := rfl
def andK (b : Bool) (c : PTv) (r : Env) (kt : Bool → Env → Prop) (W : WxV) : Prop := if b = true then c r kt W else kt false r
def orK (b : Bool) (c : PTv) (r : Env) (kt : Bool → Env → Prop) (W : WxV) : Prop := if b = true then kt true r else c r kt W
theorem andK_true : andK true c ρ kt W = c ρ kt W := rfl
theorem andK_false : andK false c ρ kt W = kt false ρ := rfl
theorem orK_true : orK true c ρ kt W = kt true ρ := rfl
theorem orK_false : orK false c ρ kt W = c ρ kt W := rfl
theorem vAndT_K : vAndT c c2 ρ kt W = c ρ (fun b r => andK b c2 r kt W) W := rfl
theorem vOrT_K : vOrT c c2 ρ kt W = c ρ (fun b r => orK b c2 r kt W) W := rfl
def andE (b : Bool) (q : PEv) (r : Env) (Q : QV) (W : WxV) : Prop := if b = true then q r Q W else Q (.sh (.bl false)) r
def orE (b : Bool) (q : PEv) (r : Env) (Q : QV) (W : WxV) : Prop := if b = true then Q (.sh (.bl true)) r else q r Q W
def ifE (b : Bool) (p q : PEv) (r : Env) (Q : QV) (W : WxV) : Prop := if b = true then p r Q W else q r Q W
theorem andE_true : andE true q ρ Q W = q ρ Q W := rfl
theorem andE_false : andE false q ρ Q W = Q (.sh (.bl false)) ρ := rfl
theorem orE_true : orE true q ρ Q W = Q (.sh (.bl true)) ρ := rfl
theorem orE_false : orE false q ρ Q W = q ρ Q W := rfl
theorem ifE_true : ifE true p q ρ Q W = p ρ Q W := rfl
theorem ifE_false : ifE false p q ρ Q W = q ρ Q W := rfl
theorem vAndE_K : vAndE p q ρ Q W = p ρ (fun sv r => vBoolK sv fun b => andE b q r Q W) W := rfl
theorem vOrE_K : vOrE p q ρ Q W = p ρ (fun sv r => vBoolK sv fun b => orE b q r Q W) W := rfl
theorem vNotE_K : vNotE p ρ Q W = p ρ (fun sv r => vBoolK sv fun b => Q (.sh (.bl (!b))) r) W := rfl
theorem vIfE_K : vIfE c p q ρ Q W = c ρ (fun b r => ifE b p q r Q W) W := rfl
def chainK (b : Bool) (g : F2) (y : AV) (pc : OpP) (r : Env) (Q : QV) (W : WxV) : Prop := if b = true then vOp pc r (fun z r3 => optK (y.get r3) fun e => optK (z.get r3) fun u => g e u fun sv => Q sv r3) W else Q (.sh (.bl false)) r
theorem chainK_true {g : F2} {y : AV} : chainK true g y pc ρ Q W = vOp pc ρ (fun z r3 => optK (y.get r3) fun e => optK (z.get r3) fun u => g e u fun sv => Q sv r3) W := rfl
theorem chainK_false {g : F2} {y : AV} : chainK false g y pc ρ Q W = Q (.sh (.bl false)) ρ := rfl
theorem vChain_K {f g : F2} : vChain f g pa pb pc ρ Q W = vOp pa ρ (fun x r => vOp pb r (fun y r2 => optK (x.get r2) fun d => optK (y.get r2) fun e => f d e fun sv => vBoolK sv fun b => chainK b g y pc r2 Q W) W) W := by
  unfold vChain
  congr 1
  funext x r
  congr 1
  funext y r2
  cases x.get r2 with
  | none => rfl
  | some d =>
    cases y.get r2 with
    | none => rfl
    | some e =>
      show (f d e fun sv => vBoolK sv fun b => if b = true then _ else _) = f d e fun sv => vBoolK sv fun b => chainK b g y pc r2 Q W
      congr 1
      funext sv
      congr 1
      funext b
      cases b with
      | false => rfl
      | true =>
        show vOp pc r2 _ W = vOp pc r2 _ W
        congr 1
        funext z r3
        cases y.get r3 <;> cases z.get r3 <;> rfl
/-! targets -/
theorem vgName_K {sv : SV} : vgName i sv ρ N = setK ρ i (some sv) N := rfl
theorem vgNil_K : vgNil [] ρ N = N ρ := by simp [vgNil]
theorem vgCons_K {g : PGv} {gs : PGsv} : vgCons g gs (d :: ds) ρ N = g (.sh d) ρ fun r => gs ds r N := rfl
theorem vgTup_K {gs : PGsv} : vgTup n gs (.sh (.tup ds)) ρ N = (ds.length = n ∧ gs ds ρ N) := rfl
/-! statements -/
def ifS (b : Bool) (s t : PSv) (r : Env) (E : VEnds) : Prop := if b = true then s r E else t r E
theorem ifS_true : ifS true s t ρ E = s ρ E := rfl
theorem ifS_false : ifS false s t ρ E = t ρ E := rfl
theorem ifS_not : ifS (!b) s t ρ E = ifS b t s ρ E := by cases b <;> rfl
theorem vsNext_K : vsNext ρ E = E.nx ρ := rfl
theorem vsSeq_K : vsSeq s t ρ E = s ρ { nx := fun r => t r E, rt := E.rt, bk := E.bk, ct := E.ct, ex := E.ex } := rfl
theorem vsRet_K : vsRet p ρ E = p ρ E.rt E.ex := rfl
theorem vsRetN_K : vsRetN ρ E = E.rt (.sh .non) ρ := rfl
theorem vsDrop_K : vsDrop p ρ E = p ρ (fun _ r => E.nx r) E.ex := rfl
theorem vsAsg_K {g : PGv} : vsAsg p g ρ E = p ρ (fun sv r => g sv r E.nx) E.ex := rfl
theorem vsIf_K' : vsIf c s t ρ E = c ρ (fun b r => ifS b s t r E) E.ex := rfl
theorem vsCont_K : vsCont ρ E = E.ct ρ := rfl
theorem vsBreak_K : vsBreak ρ E = E.bk ρ := rfl
theorem vsRaise_K {x : Str} : vsRaise x ρ E = E.ex x none ρ := rfl
def par2 : List D → Nat → Nat → Env → (Env → Prop) → Prop
  | [d, e], i, j, r, N => setK r i (some (.sh d)) fun r1 => setK r1 j (some (.sh e)) N
  | _, _, _, _, _ => False
theorem par2_K : par2 [d, e] i j ρ N = setK ρ i (some (.sh d)) fun r1 => setK r1 j (some (.sh e)) N := rfl
theorem vsPar_K : vsPar i j pes ρ E = vVals pes ρ (fun ds r => par2 ds i j r E.nx) E.ex := by
  unfold vsPar
  congr 1
  funext ds r
  rcases ds with _ | ⟨d, _ | ⟨e, _ | ⟨f, t⟩⟩⟩ <;> rfl
def par3 : List D → Nat → Nat → Nat → Env → (Env → Prop) → Prop
  | [d, e, g], i, j, l, r, N => setK r i (some (.sh d)) fun r1 => setK r1 j (some (.sh e)) fun r2 => setK r2 l (some (.sh g)) N
  | _, _, _, _, _, _ => False
theorem par3_K {g : D} {l : Nat} : par3 [d, e, g] i j l ρ N = setK ρ i (some (.sh d)) fun r1 => setK r1 j (some (.sh e)) fun r2 => setK r2 l (some (.sh g)) N := rfl
theorem vsPar3_K {l : Nat} : vsPar3 i j l pes ρ E = vVals pes ρ (fun ds r => par3 ds i j l r E.nx) E.ex := by
  unfold vsPar3
  congr 1
  funext ds r
  rcases ds with _ | ⟨d, _ | ⟨e, _ | ⟨f, _ | ⟨g, t⟩⟩⟩⟩ <;> rfl
def ownK (sv : SV) (p : Prop) : Prop := sv.isOwn = true ∧ p
theorem ownK_ow {x : Prop} : ownK (.ow ds) x = x := propext ⟨fun h => h.2, fun h => ⟨rfl, h⟩⟩
theorem ownK_mu {x : Prop} : ownK (.mu ds) x = x := propext ⟨fun h => h.2, fun h => ⟨rfl, h⟩⟩
def methK (sv : SV) (f : FM) (ds : List D) (i : Nat) (r : Env) (Q : QV) : Prop := sv.isOwn = true ∧ f sv.items ds fun new res => Q res (r.set i (some (sv.with new)))
theorem methK_ow {f : FM} {cs : List D} : methK (.ow cs) f ds i r Q = f cs ds fun new res => setK r i (some (.ow new)) fun r2 => Q res r2 := propext ⟨fun h => h.2, fun h => ⟨rfl, h⟩⟩
theorem methK_mu {f : FM} {cs : List D} : methK (.mu cs) f ds i r Q = f cs ds fun new res => setK r i (some (.mu new)) fun r2 => Q res r2 := propext ⟨fun h => h.2, fun h => ⟨rfl, h⟩⟩
theorem vMeth_K {f : FM} : vMeth i f pes ρ Q W = optK (slotOf ρ i) fun sv0 => ownK sv0 (vVals pes ρ (fun ds r => optK (slotOf r i) fun sv => methK sv f ds i r Q) W) := by
  unfold vMeth
  rw [vRd_K]
  congr 1
  funext sv0
  show (_ ∧ _) = (_ ∧ _)
  congr 1
  congr 1
  funext ds r
  rw [vRd_K]
  rfl
theorem fAppend_K {km : List D → SV → Prop} : fAppend ds [d] km = (ds.length < 16777216 ∧ km (ds ++ [d]) (.sh .non)) := rfl
theorem fExtend_K {km : List D → SV → Prop} : fExtend ds [.lst es] km = (ds.length + es.length ≤ 16777216 ∧ km (ds ++ es) (.sh .non)) := rfl
theorem own_ow : (SV.ow ds).isOwn = true := rfl
theorem own_mu : (SV.mu ds).isOwn = true := rfl
theorem items_ow : (SV.ow ds).items = ds := rfl
theorem items_mu : (SV.mu ds).items = ds := rfl
theorem with_ow : (SV.ow ds).with es = .ow es := rfl
theorem with_mu : (SV.mu ds).with es = .mu es := rfl
theorem fz_sh : (SV.sh d).fz = d := rfl
theorem fz_ow : (SV.ow ds).fz = .lst ds := rfl
theorem fz_mu : (SV.mu ds).fz = .lst ds := rfl
theorem fz_dc {a : Addr} {kvs : List (List L2.Key × D)} : (SV.dc a kvs).fz = .ob a := rfl
theorem fz_bo : (SV.bo ds).fz = .lst ds := rfl
def putK (own : SV) (i : Nat) (k : Int) (d : D) (r : Env) (N : Env → Prop) : Prop := own.isOwn = true ∧ optK (ixN own.items.length k) fun j => N (r.set i (some (own.with (own.items.set j d))))
theorem putK_ow {k : Int} : putK (.ow ds) i k d r N = optK (ixN ds.length k) fun j => setK r i (some (.ow (ds.set j d))) N := propext ⟨fun h => h.2, fun h => ⟨rfl, h⟩⟩
theorem putK_mu {k : Int} : putK (.mu ds) i k d r N = optK (ixN ds.length k) fun j => setK r i (some (.mu (ds.set j d))) N := propext ⟨fun h => h.2, fun h => ⟨rfl, h⟩⟩
theorem vsSetIx_K : vsSetIx i pa p ρ E = p ρ (fun sv r => optK (slotOf r i) fun own0 => ownK own0 (vOp pa r (fun k r2 => optK (k.get r2) fun kd => intK kd fun k => optK (slotOf r2 i) fun own => putK own i k sv.fz r2 E.nx) E.ex)) E.ex := by
  unfold vsSetIx
  congr 1
  funext sv r
  show (vRd i r fun own0 => _) = _
  unfold vRd
  cases slotOf r i with
  | none => rfl
  | some own0 =>
    show (_ ∧ _) = (_ ∧ _)
    congr 1
    congr 1
    funext k r2
    cases k.get r2 with
    | none => rfl
    | some kd =>
      cases kd with
      | int k =>
        show (match slotOf r2 i with | some sv => _ | none => _) = optK (slotOf r2 i) _
        cases slotOf r2 i with
        | none => rfl
        | some own =>
          show (_ ∧ _) = (_ ∧ _)
          congr 1
          cases ixN own.items.length k <;> rfl
      | _ => rfl
theorem srcV_K : srcV p ρ kd W = p ρ (fun sv r => fzK sv fun d => seqK d fun ds => kd ds r) W := by
  unfold srcV
  congr 1
  funext sv r
  unfold fzK
  cases sv.fz <;> rfl
theorem srcN_K : srcN i ρ kd W = optK (slotOf ρ i) fun sv => srcK sv i ρ kd := by
  unfold srcN vRd
  cases slotOf ρ i with
  | none => rfl
  | some sv =>
    cases sv with
    | sh d => cases d <;> rfl
    | _ => rfl
theorem srcE_K : srcE p ρ kd W = p ρ (fun sv r => fzK sv fun d => seqK d fun ds => kd (enumD 0 ds) r) W := by
  unfold srcE
  congr 1
  funext sv r
  unfold fzK
  cases sv.fz <;> rfl
theorem srcR1_K : srcR1 pa ρ kd W = vOp pa ρ (fun a r => optK (a.get r) fun d => intK d fun n => -(2 ^ 62) ≤ n ∧ n < 2 ^ 62 ∧ kd (intsFrom 0 n.toNat) r) W := by
  unfold srcR1
  congr 1
  funext a r
  cases a.get r with
  | none => rfl
  | some d => cases d <;> rfl
def ints2 : List D → (Int → Int → Prop) → Prop
  | [.int a, .int b], k => k a b
  | _, _ => False
theorem ints2_K {a b : Int} {k : Int → Int → Prop} : ints2 [.int a, .int b] k = k a b := rfl
theorem srcR2_K : srcR2 pa pb ρ kd W = vOps [pa, pb] ρ (fun as r => optK (getAll r as) fun ds => ints2 ds fun a b => (-(2 ^ 62) ≤ a ∧ a < 2 ^ 62 ∧ -(2 ^ 62) ≤ b ∧ b < 2 ^ 62) ∧ kd (intsFrom a (b - a).toNat) r) W := by
  unfold srcR2
  congr 1
  funext as r
  cases getAll r as with
  | none => rfl
  | some ds =>
    show _ = ints2 ds _
    unfold ints2
    split <;> (try rfl) <;> split <;> simp_all
theorem vsFor_K {src : PSrc} {g : PGv} : vsFor src g s ρ E = src ρ (fun items r => forL g s items r E) E.ex := rfl
def wipeK (ρ : Env) (vs : List Nat) (k : Env → Prop) : Prop := k (wipeE ρ vs)
theorem wipeK_nil : wipeK ρ [] N = N ρ := rfl
theorem wipeK_cons {vs : List Nat} : wipeK ρ (i :: vs) N = wipeK ρ vs fun r => setK r i none N := rfl
theorem vLc_K {src : PSrc} {g : PGv} {vs : List Nat} : vLc vs src g c p ρ Q W = src ρ (fun items r => wipeK r vs fun r => lcL vs g c p items [] r fun acc r2 => Q (.ow acc) r2) W := rfl
theorem vtYes_K : vtYes ρ kt W = kt true ρ := rfl
/-! calls -/
def callK (f : PFn) (args : List SV) (as : List AV) (r : Env) (Q : QV) (W : WxV) : Prop := f args (fun sv out => backK out as r fun r2 => Q sv r2) (fun c y out => backK out as r fun r2 => W c y r2)
theorem vCall_K {f : PFn} : vCall f ps ρ Q W = vOps ps ρ (fun as r => okArgs as = true ∧ optK (argAll r as) fun args => callK f args as r Q W) W := by
  unfold vCall
  congr 1
  funext as r
  congr 1
  cases argAll r as <;> rfl
theorem argAll_nil {kl : List SV → Prop} : optK (argAll ρ []) kl = kl [] := rfl
theorem argAll_cons0 {a : AV} {as : List AV} : argAll ρ (a :: as) = consO (a.arg ρ) (argAll ρ as) := by
  show (match a.arg ρ, argAll ρ as with
    | some d, some ds => some (d :: ds)
    | _, _ => none) = _
  cases a.arg ρ <;> cases argAll ρ as <;> rfl
theorem argAll_cons {a : AV} {as : List AV} {kl : List SV → Prop} : optK (argAll ρ (a :: as)) kl = optK (a.arg ρ) fun d => optK (argAll ρ as) fun ds => kl (d :: ds) := by
  rw [argAll_cons0]
  cases a.arg ρ <;> cases argAll ρ as <;> rfl
def argBK : SV → (SV → Prop) → Prop
  | .sh d, k => k (.sh d)
  | .ow ds, k => k (.bo ds)
  | .mu ds, k => k (.bo ds)
  | .bo ds, k => k (.bo ds)
  | .dc _ _, _ => False
def argMK : SV → (SV → Prop) → Prop
  | .ow ds, k => k (.mu ds)
  | .mu ds, k => k (.mu ds)
  | _, _ => False
theorem arg_v {kl : SV → Prop} : optK (AV.arg ρ (.v d)) kl = kl (.sh d) := rfl
theorem arg_b {kl : SV → Prop} : optK (AV.arg ρ (.b i)) kl = optK (slotOf ρ i) fun sv => argBK sv kl := by
  show optK (argB (slotOf ρ i)) kl = _
  cases slotOf ρ i with
  | none => rfl
  | some sv => cases sv <;> rfl
theorem arg_m {kl : SV → Prop} : optK (AV.arg ρ (.m i)) kl = optK (slotOf ρ i) fun sv => argMK sv kl := by
  show optK (argM (slotOf ρ i)) kl = _
  cases slotOf ρ i with
  | none => rfl
  | some sv => cases sv <;> rfl
theorem argB_sh {kl : SV → Prop} : argBK (.sh d) kl = kl (.sh d) := rfl
theorem argB_ow {kl : SV → Prop} : argBK (.ow ds) kl = kl (.bo ds) := rfl
theorem argB_mu {kl : SV → Prop} : argBK (.mu ds) kl = kl (.bo ds) := rfl
theorem argB_bo {kl : SV → Prop} : argBK (.bo ds) kl = kl (.bo ds) := rfl
theorem argM_ow {kl : SV → Prop} : argMK (.ow ds) kl = kl (.mu ds) := rfl
theorem argM_mu {kl : SV → Prop} : argMK (.mu ds) kl = kl (.mu ds) := rfl
def withK : SV → List D → (SV → Prop) → Prop
  | .mu _, ds, k => k (.mu ds)
  | _, ds, k => k (.ow ds)
theorem withK_mu {kl : SV → Prop} : withK (.mu es) ds kl = kl (.mu ds) := rfl
theorem withK_ow {kl : SV → Prop} : withK (.ow es) ds kl = kl (.ow ds) := rfl
theorem withK_eq {sv : SV} {kl : SV → Prop} : withK sv ds kl = kl (sv.with ds) := by cases sv <;> rfl
def muK : SV → (List D → Prop) → Prop
  | .mu ds, k => k ds
  | _, _ => False
theorem muK_mu {k : List D → Prop} : muK (.mu ds) k = k ds := rfl
def backN (out : Env) : Nat → List AV → Env → (Env → Prop) → Prop
  | _, [], ρ, k => k ρ
  | n, .m i :: as, ρ, k => optK (slotOf out n) fun o => muK o fun ds => optK (slotOf ρ i) fun sv => withK sv ds fun sv2 => setK ρ i (some sv2) fun r => backN out (n + 1) as r k
  | n, .v _ :: as, ρ, k => backN out (n + 1) as ρ k
  | n, .b _ :: as, ρ, k => backN out (n + 1) as ρ k
theorem backN_nil {out : Env} : backN out n [] ρ N = N ρ := rfl
theorem backN_m {out : Env} {as : List AV} : backN out n (.m i :: as) ρ N = optK (slotOf out n) fun o => muK o fun ds => optK (slotOf ρ i) fun sv => withK sv ds fun sv2 => setK ρ i (some sv2) fun r => backN out (n + 1) as r N := rfl
theorem backN_v {out : Env} {as : List AV} : backN out n (.v d :: as) ρ N = backN out (n + 1) as ρ N := rfl
theorem backN_b {out : Env} {as : List AV} : backN out n (.b i :: as) ρ N = backN out (n + 1) as ρ N := rfl
theorem backL_N {out : Env} {N : Env → Prop} : ∀ (as : List AV) (n : Nat) (ρ : Env), (match backL out n as ρ with | some r => N r | none => False) = backN out n as ρ N
  | [], n, ρ => rfl
  | .v d :: as, n, ρ => backL_N as (n + 1) ρ
  | .b i :: as, n, ρ => backL_N as (n + 1) ρ
  | .m i :: as, n, ρ => by
    show (match (match slotOf out n, slotOf ρ i with | some (.mu ds), some sv => backL out (n + 1) as (ρ.set i (some (sv.with ds))) | _, _ => none) with | some r => N r | none => False) = _
    rw [backN_m]
    cases slotOf out n with
    | none => rfl
    | some o =>
      cases o with
      | mu ds =>
        cases slotOf ρ i with
        | none => rfl
        | some sv =>
          show _ = withK sv ds fun sv2 => setK ρ i (some sv2) fun r => backN out (n + 1) as r N
          rw [withK_eq]
          exact backL_N as (n + 1) _
      | _ => rfl
theorem backK_K {out : Env} {as : List AV} : backK out as ρ N = backN out 0 as ρ N := backL_N as 0 ρ
theorem vCallK_K {f : PFn} {m : Nat} {ix : List Nat} {df : List D} : vCallK f n m ix df ps qs ρ Q W = vOps ps ρ (fun as r => as.length = n ∧ vOps qs r (fun bs r2 => bs.length = m ∧ okArgs (sel ix (as ++ bs ++ df.map AV.v)) = true ∧ optK (argAll r2 (sel ix (as ++ bs ++ df.map AV.v))) fun args => callK f args (sel ix (as ++ bs ++ df.map AV.v)) r2 Q W) W) W := by
  unfold vCallK
  congr 1
  funext as r
  congr 1
  congr 1
  funext bs r2
  congr 1
  congr 1
  cases argAll r2 (sel ix (as ++ bs ++ df.map AV.v)) <;> rfl
theorem vRep_K : vRep p pa ρ Q W = p ρ (fun sv r => fzK sv fun d => lstK d fun ds => vOp pa r (fun y r2 => optK (y.get r2) fun d => intK d fun n => n < 2 ^ 62 ∧ -(2 ^ 62) ≤ n ∧ ds.length * n.toNat ≤ 16777216 ∧ Q (.ow (List.replicate n.toNat ds).flatten) r2) W) W := by
  unfold vRep
  congr 1
  funext sv r
  unfold fzK
  cases sv.fz with
  | lst ds =>
    show vOp pa r _ W = vOp pa r _ W
    congr 1
    funext y r2
    cases y.get r2 with
    | none => rfl
    | some d => cases d <;> rfl
  | _ => rfl
theorem fnRun_K' {np : Nat} {args : List SV} : fnRun np n s args Q W = (args.length = np ∧ s (startV n args) { nx := fun r => Q (.sh .non) r, rt := Q, ex := W }) := rfl
theorem fIx_tup {i : Int} {ki : SV → Prop} : fIx (.tup ds) (.int i) ki = optK (atI ds i) fun d => ki (.sh d) := by
  show (match atI ds i with | some d => ki (.sh d) | none => False) = _
  cases atI ds i <;> rfl
theorem fIx_lst {i : Int} {ki : SV → Prop} : fIx (.lst ds) (.int i) ki = optK (atI ds i) fun d => ki (.sh d) := by
  show (match atI ds i with | some d => ki (.sh d) | none => False) = _
  cases atI ds i <;> rfl
theorem slot_zero {o : Option SV} : slotOf (o :: ρ) 0 = o := rfl
theorem slot_succ {o : Option SV} : slotOf (o :: ρ) (n + 1) = slotOf ρ n := rfl
/-! splits -/
theorem ifS_by {x : Prop} [Decidable x] (h1 : x → s ρ E) (h2 : ¬ x → t ρ E) : ifS (decide x) s t ρ E := by
  by_cases h : x
  · rw [decide_eq_true h]; exact h1 h
  · rw [decide_eq_false h]; exact h2 h
theorem andK_by {x : Prop} [Decidable x] (h1 : x → c ρ kt W) (h2 : ¬ x → kt false ρ) : andK (decide x) c ρ kt W := by
  by_cases h : x
  · rw [decide_eq_true h]; exact h1 h
  · rw [decide_eq_false h]; exact h2 h
theorem orK_by {x : Prop} [Decidable x] (h1 : x → kt true ρ) (h2 : ¬ x → c ρ kt W) : orK (decide x) c ρ kt W := by
  by_cases h : x
  · rw [decide_eq_true h]; exact h1 h
  · rw [decide_eq_false h]; exact h2 h
theorem andE_by {x : Prop} [Decidable x] (h1 : x → q ρ Q W) (h2 : ¬ x → Q (.sh (.bl false)) ρ) : andE (decide x) q ρ Q W := by
  by_cases h : x
  · rw [decide_eq_true h]; exact h1 h
  · rw [decide_eq_false h]; exact h2 h
theorem orE_by {x : Prop} [Decidable x] (h1 : x → Q (.sh (.bl true)) ρ) (h2 : ¬ x → q ρ Q W) : orE (decide x) q ρ Q W := by
  by_cases h : x
  · rw [decide_eq_true h]; exact h1 h
  · rw [decide_eq_false h]; exact h2 h
theorem ifE_by {x : Prop} [Decidable x] (h1 : x → p ρ Q W) (h2 : ¬ x → q ρ Q W) : ifE (decide x) p q ρ Q W := by
  by_cases h : x
  · rw [decide_eq_true h]; exact h1 h
  · rw [decide_eq_false h]; exact h2 h
end
theorem fSub_K {i j : Int} {k : SV → Prop} : fSub (.int i) (.int j) k = k (.sh (.int (i - j))) := rfl
theorem fXor_K {i j : Int} {k : SV → Prop} : fXor (.int i) (.int j) k = k (.sh (.int (Builtin.bitXor i j))) := rfl
theorem fAnd_K {i j : Int} {k : SV → Prop} : fAnd (.int i) (.int j) k = k (.sh (.int (Builtin.bitAnd i j))) := rfl
theorem fMulI_K {i j : Int} {k : SV → Prop} : fMulI (.int i) (.int j) k = (CMul i j ∧ k (.sh (.int (i * j)))) := rfl
theorem fDiv_K {i j : Int} {k : SV → Prop} : fDiv (.int i) (.int j) k = (CDivW i j ∧ k (.sh (.int (i / j)))) := rfl
theorem fMod_K {i j : Int} {k : SV → Prop} : fMod (.int i) (.int j) k = (0 < j ∧ k (.sh (.int (i % j)))) := rfl
theorem fPow_K {i j : Int} {k : SV → Prop} : fPow (.int i) (.int j) k = (CPow i j ∧ k (.sh (.int (i ^ j.toNat)))) := rfl
theorem fLt_K {i j : Int} {k : SV → Prop} : fLt (.int i) (.int j) k = k (.sh (.bl (decide (i < j)))) := rfl
theorem fLe_K {i j : Int} {k : SV → Prop} : fLe (.int i) (.int j) k = k (.sh (.bl (decide (i ≤ j)))) := rfl
theorem fGt_K {i j : Int} {k : SV → Prop} : fGt (.int i) (.int j) k = k (.sh (.bl (decide (j < i)))) := rfl
theorem fGe_K {i j : Int} {k : SV → Prop} : fGe (.int i) (.int j) k = k (.sh (.bl (decide (j ≤ i)))) := rfl
theorem fEq_K {i j : Int} {k : SV → Prop} : fEq (.int i) (.int j) k = k (.sh (.bl (decide (i = j)))) := rfl
theorem fNe_K {i j : Int} {k : SV → Prop} : fNe (.int i) (.int j) k = k (.sh (.bl (!decide (i = j)))) := rfl
theorem fEq_str {a b : Str} {k : SV → Prop} : fEq (.str a) (.str b) k = k (.sh (.bl (decide (a = b)))) := rfl
theorem fEq_bl {a b : Bool} {k : SV → Prop} : fEq (.bl a) (.bl b) k = k (.sh (.bl (decide (a = b)))) := rfl
theorem fEq_tup {a : List D} {e : D} {k : SV → Prop} : fEq (.tup a) e k = ((D.tup a).ok ∧ e.ok ∧ k (.sh (.bl (D.eqv (D.tup a) e)))) := rfl
theorem fEq_lst {a : List D} {e : D} {k : SV → Prop} : fEq (.lst a) e k = ((D.lst a).ok ∧ e.ok ∧ k (.sh (.bl (D.eqv (D.lst a) e)))) := rfl
theorem fNe_str {a b : Str} {k : SV → Prop} : fNe (.str a) (.str b) k = k (.sh (.bl (!decide (a = b)))) := rfl
theorem fNe_bl {a b : Bool} {k : SV → Prop} : fNe (.bl a) (.bl b) k = k (.sh (.bl (!decide (a = b)))) := rfl
theorem fNe_tup {a : List D} {e : D} {k : SV → Prop} : fNe (.tup a) e k = ((D.tup a).ok ∧ e.ok ∧ k (.sh (.bl (!D.eqv (D.tup a) e)))) := rfl
theorem fNe_lst {a : List D} {e : D} {k : SV → Prop} : fNe (.lst a) e k = ((D.lst a).ok ∧ e.ok ∧ k (.sh (.bl (!D.eqv (D.lst a) e)))) := rfl
theorem fIs_non {d : D} {k : SV → Prop} : fIs d .non k = k (.sh (.bl d.isNon)) := by cases d <;> rfl
theorem fIsNot_non {d : D} {k : SV → Prop} : fIsNot d .non k = k (.sh (.bl (!d.isNon))) := by cases d <;> rfl
theorem forL_nilK {g : PGv} {s : PSv} {ρ : Env} {E : VEnds} : forL g s [] ρ E = E.nx ρ := rfl
theorem forL_consK {g : PGv} {s : PSv} {d : D} {ds : List D} {ρ : Env} {E : VEnds} : forL g s (d :: ds) ρ E = g (.sh d) ρ fun r1 => s r1 { nx := fun r => forL g s ds r E, rt := E.rt, bk := E.nx, ct := fun r => forL g s ds r E, ex := E.ex } := rfl
theorem fIn_lst {d : D} {ds : List D} {k : SV → Prop} : fIn d (.lst ds) k = (d.ok ∧ (D.lst ds).ok ∧ k (.sh (.bl (ds.any fun z => D.eqv z d)))) := rfl
theorem fIn_tup {d : D} {ds : List D} {k : SV → Prop} : fIn d (.tup ds) k = (d.ok ∧ (D.tup ds).ok ∧ k (.sh (.bl (ds.any fun z => D.eqv z d)))) := rfl
theorem fNotIn_lst {d : D} {ds : List D} {k : SV → Prop} : fNotIn d (.lst ds) k = (d.ok ∧ (D.lst ds).ok ∧ k (.sh (.bl (!ds.any fun z => D.eqv z d)))) := rfl
theorem fNotIn_tup {d : D} {ds : List D} {k : SV → Prop} : fNotIn d (.tup ds) k = (d.ok ∧ (D.tup ds).ok ∧ k (.sh (.bl (!ds.any fun z => D.eqv z d)))) := rfl
end Vx

namespace Vx
open PySem PySem.Spec PyProof.Rows L2

/-! ### range(0, n, 2) -/
def intsTwo (n : Nat) : List D := (List.range n).map fun (i : Nat) => D.int (2 * (i : Int))
def srcR4 (p q u : OpP) : PSrc := fun ρ k W => vOps [p, q, u] ρ (fun as r => match getAll r as with
  | some [.int a, .int b, .int c] => (a = 0 ∧ c = 2) ∧ (0 ≤ b ∧ b < 2 ^ 61) ∧ k (intsTwo ((b + 1) / 2).toNat) r
  | _ => False) W
theorem itR_two {G : Gh} {K : PySem.W.Frag} {hs : Hd} {σ0 : L2.St} {n : Nat} : ItR G K hs σ0 (Itc 0 2 n) (intsTwo n) := by
  intro hs2 i ρ σ H O _ st
  have len : (intsTwo n).length = n := by unfold intsTwo; rw [List.length_map, List.length_range]
  refine ⟨fun hle => by show n ≤ i; omega, fun d hd => ?_⟩
  unfold intsTwo at hd
  rw [List.getElem?_map] at hd
  cases e : (List.range n)[i]? with
  | none => rw [e] at hd; cases hd
  | some j =>
    rw [e] at hd
    obtain ⟨h1, h2⟩ := List.getElem?_eq_some_iff.mp e
    rw [List.getElem_range] at h2
    rw [List.length_range] at h1
    subst h2
    cases hd
    refine ⟨h1, fun x H' hy => ?_⟩
    obtain ⟨rfl, rfl⟩ := hy
    exact ⟨O, st, rep_int.mpr (by congr 1; omega)⟩
theorem rg_two {b : Int} (h0 : 0 ≤ b) (h1 : b < 2 ^ 61) : RgC 0 b 2 ((b + 1) / 2).toNat := by
  have hs : Builtin.Range.rangeSize 0 b 2 = ((b + 1) / 2) := by
    unfold Builtin.Range.rangeSize
    simp only [show (2 : Int) > 0 from by decide, if_true]
    split <;> omega
  refine ⟨by decide, by decide, ?_, by rw [hs]; omega⟩
  unfold Builtin.Range.small
  rw [hs]
  simp only [Builtin.Range.rangeFitsLong, Bool.and_eq_true, Bool.or_eq_true, decide_eq_true_eq, beq_iff_eq, show ((2 : Int) > 0) from by decide, if_true]
  omega
section
variable {X : Cx} {G : Gh} {tg a b c e : Expr} {pa pb pc : OpP} {p pos p1 p2 p3 : Pos} {k : Nat}
theorem vi_range4 (hg : Gl X "range") (hm : X.mg "range" = none) (ha : VA X G [a, b, c] [pa, pb, pc])
    (hs : starEach [a, b, c] X.env = (false, eval a X.env) :: starEach [b, c] X.env := by rfl) (hpl : (backTo pos (starEach [b, c] X.env)).any (·.1) = false := by rfl) :
    VI X G tg (.Call (.Name "range" p) [a, b, c] [] pos) (srcR4 pa pb pc) := by
  refine ⟨fun ρ k k' W W' hk hW z => ha.mono ρ _ _ _ _ (fun as r z => ?_) hW z, fun We tk => ⟨_, pi_range3 hg hm (ha.run We tk) hs hpl, fun σ H R ⟨hs, ρ, O, st, z⟩ => ?_⟩⟩
  · split at z
    · exact ⟨z.1, z.2.1, hk _ _ z.2.2⟩
    · exact z.elim
  · refine ⟨hs, ρ, O, st, ha.mono ρ _ _ _ _ (fun as r z vs H1 O1 st1 rv => ?_) (fun _ _ _ w => w) z⟩
    split at z
    · rename_i i j c hn
      obtain ⟨⟨rfl, rfl⟩, ⟨z1, z2⟩, z⟩ := z
      obtain ⟨v, r1, rfl, h1, w, r2, rfl, h3, u, r3, rfl, h5, h6⟩ := st1.viewL rv hn
      have h6' : r3 = [] := h6
      subst h6'
      exact ⟨0, j, 2, _, by rw [view_int h1, view_int h3, view_int h5], rg_two z1 z2, z _ H1 hs O1 (fun _ h => h) st1 itR_two⟩
    · exact z.elim
end
def ints3 : List D → (Int → Int → Int → Prop) → Prop
  | [.int a, .int b, .int c], k => k a b c
  | _, _ => False
theorem ints3_K {a b c : Int} {k : Int → Int → Int → Prop} : ints3 [.int a, .int b, .int c] k = k a b c := rfl
theorem srcR4_K {pa pb pc : OpP} {ρ : Env} {kd : List D → Env → Prop} {W : WxV} : srcR4 pa pb pc ρ kd W = vOps [pa, pb, pc] ρ (fun as r => optK (getAll r as) fun ds => ints3 ds fun a b c => (a = 0 ∧ c = 2) ∧ (0 ≤ b ∧ b < 2 ^ 61) ∧ kd (intsTwo ((b + 1) / 2).toNat) r) W := by
  unfold srcR4
  congr 1
  funext as r
  cases getAll r as with
  | none => rfl
  | some ds =>
    show _ = ints3 ds _
    unfold ints3
    split <;> (try rfl) <;> split <;> simp_all
theorem srcR3_K {pa pb pc : OpP} {ρ : Env} {kd : List D → Env → Prop} {W : WxV} : srcR3 pa pb pc ρ kd W = vOps [pa, pb, pc] ρ (fun as r => optK (getAll r as) fun ds => ints3 ds fun a b c => c = -1 ∧ (-(2 ^ 62) ≤ a ∧ a < 2 ^ 62 ∧ -(2 ^ 62) ≤ b ∧ b < 2 ^ 62) ∧ kd (intsDown a (a - b).toNat) r) W := by
  unfold srcR3
  congr 1
  funext as r
  cases getAll r as with
  | none => rfl
  | some ds =>
    show _ = ints3 ds _
    unfold ints3
    split <;> (try rfl) <;> split <;> simp_all
/-! ### xs.index(i), whole numbers -/
def fIndex : FM := fun cs ds k => match ds with
  | [.int i] => ∃ (ns : List Int) (j : Nat), cs = ns.map D.int ∧ ns[j]? = some i ∧ (∀ m, m < j → ns[m]? ≠ some i) ∧ k cs (.sh (.int j))
  | _ => False
theorem fIndex_mono : FM.Mono fIndex := by
  intro cs ds k k' hk h
  unfold fIndex at h ⊢
  split at h
  · obtain ⟨ns, j, h1, h2, h3, h4⟩ := h
    exact ⟨ns, j, h1, h2, h3, hk _ _ h4⟩
  · exact h.elim
theorem repL_ints {K : PySem.W.Frag} {O : Own} {H : Hp} : ∀ {ns : List Int} {xs : List V}, RepL K O H (ns.map D.int) xs → xs = ns.map V.int
  | [], xs, h => repL_nil.mp h
  | n :: ns, xs, h => by
    obtain ⟨y, ys, rfl, r, t⟩ := repL_cons.mp h
    rw [rep_int.mp r, repL_ints t]
    rfl
theorem mv_index {X : Cx} : MethV X (rIndex X.K) fIndex := by
  intro a xs vs cs ds O H Q hx hO rr rv h
  unfold fIndex at h
  split at h
  · rename_i i
    obtain ⟨ns, j, rfl, h2, h3, h4⟩ := h
    have ex := repL_ints rr
    subst ex
    obtain ⟨y, ys, rfl, r1, r2⟩ := repL_cons.mp rv
    rw [repL_nil.mp r2, rep_int.mp r1]
    have hu : upd H a (.lst (ns.map V.int)) = H := by
      funext b
      unfold upd
      split
      · rename_i e; rw [e]; exact hx.symm
      · rfl
    have h5 := h4 (.int (j : Int)) (ns.map V.int) rr ⟨_, rfl, rep_int.mpr rfl⟩
    rw [hu] at h5
    refine ⟨a, ns.map V.int, .int i, j, .int i, rfl, rfl, SqL.of hx, rfl, ?_, by rw [List.getElem?_map, h2]; rfl, ?_, fun m z' hm hz => ?_, h5⟩
    · rw [List.all_map]
      exact List.all_eq_true.mpr fun x _ => rfl
    · show (i == i) = true
      exact beq_self_eq_true i
    · rw [List.getElem?_map] at hz
      cases e : ns[m]? with
      | none => rw [e] at hz; cases hz
      | some n =>
        rw [e] at hz
        cases hz
        show (n == i) = false
        rw [beq_eq_false_iff_ne]
        intro z
        exact h3 m hm (by rw [e, z])
  · exact h.elim
theorem fIndex_K {ds : List D} {i : Int} {k : List D → SV → Prop} : fIndex ds [.int i] k = ∃ (ns : List Int) (j : Nat), ds = ns.map D.int ∧ ns[j]? = some i ∧ (∀ m, m < j → ns[m]? ≠ some i) ∧ k ds (.sh (.int j)) := rfl
end Vx

namespace Vx
open PySem PySem.Spec PyProof.Rows L2

/-! ### a, b = x, y with plain names, the second one an own list -/
def vsPar2 (i j : Nat) (p q : PEv) : PSv := fun ρ D => p ρ (fun sv1 r => q r (fun sv2 r2 => D.nx ((r2.set i (some (.sh sv1.fz))).set j (some sv2))) D.ex) D.ex
def TPair (G : Gh) (K : PySem.W.Frag) (p q : PEv) (We : Hd → WxV) : TA := fun σ H Q => ∃ hs ρ O, StR G K hs σ H ρ O ∧ p ρ (fun sv1 r => q r (fun sv2 r2 => ∀ v u H' O', StR G K hs σ H' r2 O' → Rep K O' H' sv1.fz v → ResR G K hs σ r2 O' H' sv2 u → Q [v, u] H') (We hs)) (We hs)
section
variable {X : Cx} {G : Gh} {a b : Expr} {p q : PEv}
theorem pa_pair (ha : VE X G a p) (hb : VE X G b q) (hs : starEach [a, b] X.env = (false, eval a X.env) :: starEach [b] X.env := by rfl) (hs2 : starEach [b] X.env = (false, eval b X.env) :: starEach [] X.env := by rfl) :
    ∀ We, Tk X G We → PA X [a, b] (TPair G X.K p q We) := fun We tk => (pa_cons (ha.run We tk) (pa_cons (hb.run We tk) pa_nil hs2) hs).weak fun σ H Q ⟨hs, ρ, O, st, z⟩ => by
  refine ⟨hs, ρ, O, st, ha.mono ρ _ _ _ _ (fun sv r z x H1 O1 st1 r1 => ?_) (fun _ _ _ w => w) z⟩
  obtain ⟨O2, st2, _, r2⟩ := ResR.freeze st1 r1
  refine ⟨HdI.val sv.fz x :: hs, r, O2, st2.hold r2, hb.mono r _ _ _ _ (fun sv2 r3 z2 y H3 O3 st3 ry => ?_) (tk.up _ _ fun p hp => List.mem_cons_of_mem _ hp) z⟩
  exact z2 x y H3 O3 (st3.fewer fun p hp => List.mem_cons_of_mem _ hp) (st3.held sv.fz x List.mem_cons_self) (ry.fewer fun p hp => List.mem_cons_of_mem _ hp)
theorem ResR.setSh {K : PySem.W.Frag} {hs : Hd} {σ : L2.St} {ρ : Env} {O : Own} {H : Hp} {sv : SV} {u v : V} {i : Nat} {d : D} (r : ResR G K hs σ ρ O H sv u) : ResR G K hs (σ.set i (some v)) (ρ.set i (some (.sh d))) O H sv u := by
  cases sv with
  | sh d => exact r
  | ow ds =>
    obtain ⟨a, xs, h1, h2, h3, h4, h5, h6, h7⟩ := r
    refine ⟨a, xs, h1, h2, h3, h4, h5, fun j tv e o e2 => ?_, h7⟩
    rcases set_at e with ⟨rfl, e3, _⟩ | ⟨hj, e3⟩
    · cases e3; cases o
    · rw [List.getElem?_set_ne (Ne.symm hj)] at e2
      exact h6 j tv e3 o e2
  | mu ds => exact r
  | bo ds => exact r
  | dc a kvs => exact r
theorem vs_par2 {i j : Nat} {x y : Str} {px py pt pos : Pos} {kt k2 pt2} (hc : X.calm = true) (hN : X.N.Nodup) (hi : X.N[i]? = some x) (hj : X.N[j]? = some y) (hij : i ≠ j)
    (hx : X.env.scope.names.lookup x = some .local) (hy : X.env.scope.names.lookup y = some .local) (ha : VE X G a p) (hb : VE X G b q)
    (hw : swappedStores [.Tuple [.Name x px, .Name y py] kt pt] (.Tuple [a, b] k2 pt2) X.env = pure (some [x, y]))
    (hs : swapsWithSole [.Tuple [.Name x px, .Name y py] kt pt] (.Tuple [a, b] k2 pt2) pos.line X.env = pure false := by rfl)
    (he : starEach [a, b] X.env = (false, eval a X.env) :: starEach [b] X.env := by rfl) (he2 : starEach [b] X.env = (false, eval b X.env) :: starEach [] X.env := by rfl) :
    VS X G (.Assign [.Tuple [.Name x px, .Name y py] kt pt] (.Tuple [a, b] k2 pt2) pos) (vsPar2 i j p q) := by
  refine ⟨fun ρ D D' hl z => ha.mono ρ _ _ _ _ (fun sv1 r z => hb.mono r _ _ _ _ (fun sv2 r2 z => hl.nx _ z) hl.ex z) hl.ex z, fun We tk => (ps_par hc hN hi hj hij hx hy (pa_pair ha hb he he2 We tk) hw hs).weak fun D σ H ⟨hs, ρ, O, st, z⟩ => ⟨hs, ρ, O, st, ha.mono ρ _ _ _ _ (fun sv1 r z => hb.mono r _ _ _ _ (fun sv2 r2 z v u H' O' st' r1 ru => ?_) (fun _ _ _ w => w) z) (fun _ _ _ w => w) z⟩⟩
  refine ⟨v, u, rfl, z _ H' O' ?_⟩
  exact (st'.set (sv := .sh sv1.fz) r1).set ru.setSh
end
theorem vsPar2_K {i j : Nat} {p q : PEv} {ρ : Env} {E : VEnds} : vsPar2 i j p q ρ E = p ρ (fun sv1 r => fzK sv1 fun d => q r (fun sv2 r2 => setK r2 i (some (.sh d)) fun r3 => setK r3 j (some sv2) E.nx) E.ex) E.ex := rfl

/-! ### a, b = a list -/
def vgLst (n : Nat) (gs : PGsv) : PGv := fun sv ρ k => match sv with
  | .sh (.lst ds) => ds.length = n ∧ gs ds ρ k
  | .ow ds => ds.length = n ∧ gs ds ρ k
  | _ => False
theorem vg_lst {X : Cx} {G : Gh} {es : List Expr} {gs : PGsv} {pos : Pos} {n : Nat} {is : List Nat} {j : Nat} (hc : X.calm = true) (h : VGs X G es gs is) (hn : (assignEach es X.env).length = n := by rfl) (hst : (assignEach es X.env).findIdx? (·.1) = none := by rfl) : VG X G (.Tuple es j pos) (vgLst n gs) is := by
  refine ⟨fun sv ρ k k' hk q => ?_, (pg_lst hc h.run hn hst).weak fun v σ H Q ⟨hs, ρ, O, sv, st, r, q⟩ => ?_⟩
  · unfold vgLst at q ⊢
    split at q
    · exact ⟨q.1, h.mono _ _ _ _ hk q.2⟩
    · exact ⟨q.1, h.mono _ _ _ _ hk q.2⟩
    · exact q.elim
  · unfold vgLst at q
    split at q
    · rename_i ds
      have r' : Rep X.K O H (.lst ds) v := r
      obtain ⟨a, xs, rfl, t, rr⟩ := rep_lst.mp r'
      exact ⟨a, xs, rfl, t.sq, rr.length.trans q.1, hs, ρ, O, ds, st, rr, q.2⟩
    · rename_i ds
      obtain ⟨O', st', s', r'⟩ := ResR.freeze (sv := .ow ds) st r
      have r2 : Rep X.K O' H (.lst ds) v := r'
      obtain ⟨a, xs, rfl, t, rr⟩ := rep_lst.mp r2
      exact ⟨a, xs, rfl, t.sq, rr.length.trans q.1, hs, ρ, O', ds, st', rr, q.2⟩
    · exact q.elim
theorem vgLst_sh {n : Nat} {gs : PGsv} {ds : List D} {ρ : Env} {N : Env → Prop} : vgLst n gs (.sh (.lst ds)) ρ N = (ds.length = n ∧ gs ds ρ N) := rfl
theorem vgLst_ow {n : Nat} {gs : PGsv} {ds : List D} {ρ : Env} {N : Env → Prop} : vgLst n gs (.ow ds) ρ N = (ds.length = n ∧ gs ds ρ N) := rfl
end Vx

namespace Vx
open PySem PySem.Spec PyProof.Rows L2

/-! ### sorted(set(a list of ints)) -/
section
variable {P : Program} {w : World} {A : Around} {E : Value → Shared → Prop} {s : Shared}
/-- a set as it is made -/
abbrev bareSet (w : World) : Obj := { cls := .type "set", dict := none, data := .set #[] 0 (.fresh 0 0 (!w.params.followText "set-order")) }
theorem set_init_list {l S : Addr} {items : Array Value} (ns : List Int) {R : PySem.Fin → Shared → Prop} (hh : A.handled = none) (hS : s.heap.get? S = some (bareSet w)) (hlS : l ≠ S)
    (hl : s.heap.IsList l items) (hlz : l < s.heap.objs.size) (hSz : S < s.heap.objs.size) (hit : IntsAre items.toList ns) (hb : ns.length + 1 < scanBound)
    (hR : ∀ (h' : Heap) (tk c : Nat), SetR w h' S (fun j => decide (j ∈ ns)) c → c ≤ ns.length → (∀ b o, b ≠ S → s.heap.get? b = some o → h'.get? b = some o) → R (.done (.ret .none)) { s with heap := h', toks := tk }) :
    wpAny (model P w) A (Builtin.«set.__init__» ⟨[.ref S, .ref l], []⟩) R E s := by
  have hisz : items.size = ns.length := by
    have q := IntsAre.length hit
    rw [Array.length_toList] at q
    exact q
  obtain ⟨⟨ocls, odict, odata, oslots⟩, hol, hcl, nl, hdl⟩ := hl
  simp only at hcl hdl
  subst hcl; subst hdl
  have hT : s.TypeIs (.ref S) "set" := ⟨_, hS, rfl⟩
  have hsls := F.sub_list_set
  have hslf := F.sub_list_frozenset
  have hne : (Value.type "list" == Value.type "dict") = false := by decide
  have hl1 : s.heap.IsList l items := ⟨_, hol, rfl, nl, rfl⟩
  unfold Builtin.«set.__init__» noKeywords Builtin.Frozenset.updateFrom
  generalize hPI : pyIter = PI
  wp_walk
  subst hPI
  refine wpAny_pyIter_list hl1 ?_
  refine wpAny_bind (wpAny_runValue ?_)
  have hneI : l ≠ s.heap.objs.size := Nat.ne_of_lt hlz
  have hSf : S ∉ [s.heap.objs.size, l] := by
    simp only [List.mem_cons, List.not_mem_nil, or_false, not_or]
    exact ⟨Nat.ne_of_lt hSz, fun z => hlS z.symm⟩
  have hval : ∀ (i : Nat) (v : Value), items[i]? = some v → ∃ k t, ns[i]? = some k ∧ v = .int k t := fun i v hv => by
    have hi : i < ns.length := by rw [← hisz]; exact (Array.getElem?_eq_some_iff.mp hv).1
    obtain ⟨t, e⟩ := PyProof.Rows.IntsAre.int_at hit i v (by rw [Array.getElem?_toList]; exact hv)
    refine ⟨ns[i], t, List.getElem?_eq_getElem hi, ?_⟩
    rw [e, List.getD_eq_getElem?_getD, List.getElem?_eq_getElem hi] <;> rfl
  refine set_update_ints ((Walks.list (by simp [hh]) _ l hneI items).toS) S hSf ns hisz hb hval (items.size - 0) 0 _ (by omega) (Nat.zero_le _) ⟨⟨_, Heap.get?_push_size _ rfl, rfl, rfl⟩, (hl1.push _)⟩ ⟨0, Nat.le_refl 0, setR_new_at (Heap.get?_push_of_some _ hS)⟩ ?_
  intro s' c' hm hc' hS'
  obtain ⟨h', g2, d', tk', os'⟩ := s'
  have eg : g2 = s.gens := hm.gens
  have ed : d' = s.drawn := hm.drawn
  have eo : os' = s.os := hm.os
  subst eg; subst ed; subst eo
  refine wpAny_pure ?_
  show wpAny _ _ (ret Value.none) _ _ _
  rw [hisz] at hc'
  refine wpAny_pure (hR h' tk' c' hS' hc' fun b o hb' e => ?_)
  exact hm.heap b o (by simp only [List.mem_cons, List.not_mem_nil, or_false, not_or]; exact ⟨hb', Nat.ne_of_lt (Heap.lt_size e)⟩) (Heap.get?_push_of_some _ e)
/-- set(a list of ints) -/
theorem set_of_list {l : Addr} {items : Array Value} (ns : List Int) {Q : Value → Shared → Prop} (hh : A.handled = none) (hl : s.heap.IsList l items) (hit : IntsAre items.toList ns) (hb : ns.length + 1 < scanBound)
    (h : ∀ (h' : Heap) (tk c : Nat), SetR w h' s.heap.objs.size (fun j => decide (j ∈ ns)) c → c ≤ ns.length → (∀ b o, s.heap.get? b = some o → h'.get? b = some o) → Q (.ref s.heap.objs.size) { s with heap := h', toks := tk }) :
    wpAny (model P w) A (call (.type "set") [.ref l]) Q E s := by
  obtain ⟨c, tl, hmro⟩ := F.called_set.mro
  have hmade := F.called_set.made
  have hsub := F.called_set.sub
  refine wpAny_call (codeAny_of_tree ?_)
  show wpAny _ _ (callAny (.type "set") _) _ _ _
  refine wpAny_pure ⟨Code.quiet_builtin _ (by decide +kernel), codeAny_builtin F.entry_type_call ?_⟩
  rw [Around.under_plain (weight_type_call_type "set" [.ref l] []) rfl]
  have h1 := F.called_set.notType
  have h2 := F.called_set.canCreate
  have hct := F.typeCall_set_1 (.ref l)
  repeat (any_goals (first | assumption | wp_step))
  refine codeAny_mono (code_set_led1 (.ref l) (E := E) (Q₁ := fun obj s₁ => obj = .ref s.heap.objs.size ∧ s₁ = { s with heap := s.heap.push (bareSet w) }) ⟨rfl, rfl⟩) fun r s₁ hr => ?_
  cases r with
  | error e => exact hr
  | ok fl =>
    cases fl with
    | ret obj =>
      obtain ⟨rfl, rfl⟩ := hr
      have hS : (s.heap.push (bareSet w)).get? s.heap.objs.size = some (bareSet w) := Heap.get?_push_size _ rfl
      have hT : Shared.TypeIs { s with heap := s.heap.push (bareSet w) } (.ref s.heap.objs.size) "set" := ⟨_, hS, rfl⟩
      have hli := F.called_set.init.lookup
      have hbi := F.called_set.init.bind (.ref s.heap.objs.size)
      repeat (any_goals (first | assumption | wp_step))
      have hlz : l < s.heap.objs.size := by
        obtain ⟨o, ho, _⟩ := hl
        exact Heap.lt_size ho
      have hz : (s.heap.push (bareSet w)).objs.size = s.heap.objs.size + 1 := Heap.size_push ..
      refine codeAny_mono (codeAny_call_builtin (R := wants (fun r s₂ => r = .none ∧ ∃ h' tk c, s₂ = { s with heap := h', toks := tk } ∧ SetR w h' s.heap.objs.size (fun j => decide (j ∈ ns)) c ∧ c ≤ ns.length ∧
          (∀ b o, s.heap.get? b = some o → h'.get? b = some o)) E) F.called_set.init.plain F.entry_set_init (check_set_init_1 hT ?_)) fun r₂ s₂ hr₂ => ?_
      · refine set_init_list (s := { s with heap := s.heap.push (bareSet w) }) ns (by simp [hh]) hS (Nat.ne_of_lt hlz) (hl.push _) (Nat.lt_of_lt_of_eq (Nat.lt_succ_of_lt hlz) hz.symm) (Nat.lt_of_lt_of_eq (Nat.lt_succ_self _) hz.symm) hit hb fun h' tk c r hc k => ?_
        exact ⟨rfl, h', tk, c, rfl, r, hc, fun b o e => k b o (Nat.ne_of_lt (Heap.lt_size e)) (Heap.get?_push_of_some _ e)⟩
      · cases r₂ with
        | error e => exact hr₂
        | ok fl₂ =>
          cases fl₂ with
          | ret r =>
            obtain ⟨rfl, h', tk, c', rfl, hS', hc', hk'⟩ := hr₂
            repeat (any_goals (first | assumption | wp_step))
            exact h _ _ _ hS' hc' hk'
          | _ => exact hr₂.elim
    | _ => exact hr.elim
end
/-- sorted(set(xs)), xs a list of ints -/
def tSortSet (K : PySem.W.Frag) (ta : TE) : TE := fun σ H Q => ta σ H fun x H1 => ∃ (l : Addr) (ns : List Int), x = .ref l ∧ SqL K H1 l (ns.map V.int) ∧ ns.length < 64 ∧ ∀ (ms : List Int) p, ms.Pairwise (· < ·) → (∀ k, k ∈ ms ↔ k ∈ ns) → H1 p = none → Q (.ref p) (upd H1 p (.lst (ms.map V.int)))
theorem pe_sortSet {X : Cx} {a : Expr} {ta : TE} {p p2 q pos : Pos} (hc : X.calm = true) (hg : Gl X "sorted") (hm : X.mg "sorted" = none) (hg2 : Gl X "set") (hm2 : X.mg "set" = none) (ha : PE X a ta)
    (na : starEach [a] X.env = (false, eval a X.env) :: starEach [] X.env := by rfl) : PE X (.Call (.Name "sorted" p) [.Call (.Name "set" p2) [a] [] q] [] pos) (tSortSet X.K ta) := by
  refine ⟨fun pins s σ H Q I h => ?_⟩
  refine Call_ (ld_blt I hg hm (show bootBuiltins "sorted" = some (.builtin "sorted") by decide +kernel) ?_)
  refine PyProof.Rows.callWith_builtin1 (PyProof.Rows.args_cons ?_ rfl) rfl rfl
  refine Call_ (ld_blt I hg2 hm2 boot_set ?_)
  refine PyProof.Rows.callWith_type1 (PyProof.Rows.args_cons (thn (ha.run pins s σ H _ I h) fun v s1 ⟨x, H1, I1, r1, q1⟩ => PyProof.Rows.args_nil ?_) na) na rfl
  obtain ⟨l, ns, rfl, hq, h64, q1⟩ := q1
  cases r1
  obtain ⟨its, r, pl, hz⟩ := I1.list hq
  refine set_of_list ns (I1.ok.hd hc) pl.isList (by simpa using ints_of_vals r) (by have : (64 : Nat) < scanBound := by decide
                                                                                    omega) fun h' tk c R hcn hk => ?_
  refine PyProof.Rows.args_nil ?_
  have I2 : Inv X pins σ H1 { s1 with heap := h', toks := tk } := I1.kept fun b o e => hk b o e
  generalize hs2 : ({ s1 with heap := h', toks := tk } : Shared) = s2 at I2
  have R2 : SetR X.w s2.heap s1.heap.objs.size (fun j => decide (j ∈ ns)) c := by rw [← hs2]; exact R
  refine sorted_set R2 (I1.ok.hd hc) (by omega) fun s' p out c ms k g o hp hg hi hs hm hl => ?_
  have hlen : (ms.map V.int).length ≤ sizeLine := by rw [List.length_map, hl, sizeLine_eq]; omega
  have hn : H1 p = none := I2.hok.fresh hp
  have J : Inv X pins σ (upd H1 p (.lst (ms.map V.int))) { s2 with heap := s'.heap, gens := s'.gens, drawn := s'.drawn, toks := s'.toks } :=
    I2.call (ch := []) (Un.laid k hp hn) (I2.hok.laid k hp ⟨hlen, out.toList, c, vals_of_ints hi, hg⟩) (by rw [g]; exact I2.bare) (fun _ z => nomatch z)
  have e : s' = { s2 with heap := s'.heap, gens := s'.gens, drawn := s'.drawn, toks := s'.toks } := by
    cases s'
    cases s2
    cases o
    rfl
  rw [e]
  exact ⟨.ref p, _, J, rfl, q1 ms p hs (fun k => by rw [hm k]; simp) hn⟩
def fSortSet : D → (SV → Prop) → Prop
  | .lst ds, k => match intsOf ds with
    | some ns => ns.length < 64 ∧ ∀ ms : List Int, ms.Pairwise (· < ·) → (∀ i, i ∈ ms ↔ i ∈ ns) → k (.ow (ms.map D.int))
    | none => False
  | _, _ => False
def vSortSet (p : PEv) : PEv := fun ρ Q W => p ρ (fun sv r => fSortSet sv.fz fun sv2 => Q sv2 r) W
theorem fSortSet_mono {d : D} {k k' : SV → Prop} (hk : ∀ sv, k sv → k' sv) (h : fSortSet d k) : fSortSet d k' := by
  unfold fSortSet at h ⊢
  split at h
  · split at h
    · exact ⟨h.1, fun m h1 h2 => hk _ (h.2 m h1 h2)⟩
    · exact h.elim
  · exact h.elim
theorem ve_sortSet {X : Cx} {G : Gh} {a : Expr} {pa : PEv} {p p2 q pos : Pos} (hc : X.calm = true) (hg : Gl X "sorted") (hm : X.mg "sorted" = none) (hg2 : Gl X "set") (hm2 : X.mg "set" = none) (ha : VE X G a pa)
    (na : starEach [a] X.env = (false, eval a X.env) :: starEach [] X.env := by rfl) : VE X G (.Call (.Name "sorted" p) [.Call (.Name "set" p2) [a] [] q] [] pos) (vSortSet pa) := by
  refine ⟨fun ρ Q Q' W W' hQ hW z => ha.mono ρ _ _ _ _ (fun sv r z => fSortSet_mono (fun sv2 z => hQ _ _ z) z) hW z, fun We tk => (pe_sortSet hc hg hm hg2 hm2 (ha.run We tk) na).weak fun σ H Q ⟨hs, ρ, O, st, z⟩ => ⟨hs, ρ, O, st, ha.mono ρ _ _ _ _ (fun sv r z v H' O' st' rv => ?_) (fun _ _ _ w => w) z⟩⟩
  obtain ⟨O2, st2, _, r2⟩ := ResR.freeze st' rv
  generalize sv.fz = d at r2 z
  unfold fSortSet at z
  split at z
  · split at z
    · rename_i ds k ns e
      obtain ⟨b, ys, rfl, t, rr⟩ := rep_lst.mp r2
      rw [intsOf_eq e] at rr
      have := rr.ints_eq
      subst this
      refine ⟨b, ns, rfl, t.sq, z.1, fun ms p h1 h2 hp => ?_⟩
      obtain ⟨st3, r3⟩ := st2.resLst (ds := ms.map D.int) hp RepL.ints
      exact z.2 ms h1 h2 _ _ _ st3 r3
    · exact z.elim
  · exact z.elim
theorem vSortSet_sh {p : PEv} {ρ : Env} {Q : QV} {W : WxV} : vSortSet p ρ Q W = p ρ (fun sv r => fzK sv fun d => fSortSet d fun sv2 => Q sv2 r) W := rfl
theorem fSortSet_ints {ns : List Int} {k : SV → Prop} : fSortSet (.lst (ns.map D.int)) k = (ns.length < 64 ∧ ∀ ms : List Int, ms.Pairwise (· < ·) → (∀ i, i ∈ ms ↔ i ∈ ns) → k (.ow (ms.map D.int))) := by
  have e : intsOf (ns.map D.int) = some ns := by
    induction ns with
    | nil => rfl
    | cons n t ih =>
      show (intsOf (t.map D.int)).map (n :: ·) = _
      rw [ih]; rfl
  show (match intsOf (ns.map D.int) with | some ns => _ | none => _) = _
  rw [e]
end Vx

namespace Vx
open PySem PySem.Spec PyProof.Rows L2

/-! ### xs.pop(i) -/
theorem RepL.eraseIdx {K : PySem.W.Frag} {O : Own} {H : Hp} {ds : List D} {xs : List V} (n : Nat) (r : RepL K O H ds xs) : RepL K O H (ds.eraseIdx n) (xs.eraseIdx n) := by
  rw [List.eraseIdx_eq_take_drop_succ, List.eraseIdx_eq_take_drop_succ]
  exact (r.take n).append (r.drop (n + 1))
def fPopAt : FM := fun cs ds k => match ds with
  | [.int i] => 0 ≤ i ∧ i < 4611686018427387904 ∧ (match cs[i.toNat]? with
    | some d => k (cs.eraseIdx i.toNat) (.sh d)
    | none => False)
  | _ => False
theorem fPopAt_mono : FM.Mono fPopAt := by
  intro cs ds k k' hk h
  unfold fPopAt at h ⊢
  split at h
  · refine ⟨h.1, h.2.1, ?_⟩
    have h2 := h.2.2
    split at h2
    · exact hk _ _ h2
    · exact h2.elim
  · exact h.elim
theorem mv_popAt {X : Cx} : MethV X rPopAt fPopAt := by
  intro a xs vs cs ds O H Q hx hO rr rv h
  unfold fPopAt at h
  split at h
  · rename_i i
    obtain ⟨h1, h2, h3⟩ := h
    split at h3
    · rename_i d hd
      obtain ⟨y, ys, rfl, r1, r2⟩ := repL_cons.mp rv
      rw [repL_nil.mp r2, rep_int.mp r1]
      obtain ⟨v, e1, r3⟩ := rr.get hd
      have hlt : i.toNat < xs.length := (List.getElem?_eq_some_iff.mp e1).1
      refine ⟨a, xs, i, i.toNat, v, rfl, rfl, hx, by omega, by omega, ?_, e1, h3 v _ (rr.eraseIdx _) ⟨d, rfl, r3⟩⟩
      have h6 : ¬ i < 0 := by omega
      have h7 : (decide (0 ≤ i) && decide (i < (xs.length : Int))) = true := by
        rw [Bool.and_eq_true, decide_eq_true_iff, decide_eq_true_iff]
        omega
      simp only [seqIndex?, h6, if_false]
      exact if_pos h7
    · exact h3.elim
  · exact h.elim
theorem fPopAt_K {cs : List D} {i : Int} {km : List D → SV → Prop} : fPopAt cs [.int i] km = (0 ≤ i ∧ i < 4611686018427387904 ∧ optK cs[i.toNat]? fun d => km (cs.eraseIdx i.toNat) (.sh d)) := by
  show (_ ∧ _ ∧ _) = _
  cases cs[i.toNat]? <;> rfl
/-! ### max and min of a list of ints -/
theorem fMax_ints {ns : List Int} {k : SV → Prop} (h0 : 0 < ns.length) (h : ∀ m, m ∈ ns → (∀ y, y ∈ ns → y ≤ m) → k (.sh (.int m))) : fMax [.lst (ns.map D.int)] k := by
  have e : intsOf (ns.map D.int) = some ns := by
    clear h0 h
    induction ns with
    | nil => rfl
    | cons a t ih =>
      show (intsOf (t.map D.int)).map (a :: ·) = _
      rw [ih]
      rfl
  unfold fMax
  simp only [e]
  exact ⟨h0, h⟩
theorem fMin_ints {ns : List Int} {k : SV → Prop} (h0 : 0 < ns.length) (h : ∀ m, m ∈ ns → (∀ y, y ∈ ns → m ≤ y) → k (.sh (.int m))) : fMin [.lst (ns.map D.int)] k := by
  have e : intsOf (ns.map D.int) = some ns := by
    clear h0 h
    induction ns with
    | nil => rfl
    | cons a t ih =>
      show (intsOf (t.map D.int)).map (a :: ·) = _
      rw [ih]
      rfl
  unfold fMin
  simp only [e]
  exact ⟨h0, h⟩
/-! ### x * x of great numbers -/
abbrev fMulW := fII CMulW fun i j => i * j
theorem fMulW_K {i j : Int} {k : SV → Prop} : fMulW (.int i) (.int j) k = (CMulW i j ∧ k (.sh (.int (i * j)))) := rfl
/-! ### f(g(x)): a list just made is lent to be changed -/
theorem StR.call1 {K : PySem.W.Frag} {G : Gh} {hs : Hd} {σ : L2.St} {H H' : Hp} {ρ out : Env} {O O' O2 : Own} {a : Addr} {ds : List D} (st : StR G K hs σ H ρ O) {xs0 : List V} (hl0 : H a = some (.lst xs0)) (hO : O a) (h0 : G.H0 a = none)
    (hn : ∀ (j : Nat) (tv : SV), ρ[j]? = some (some tv) → tv.isOwn = true → σ[j]? ≠ some (some (V.ref a))) (hp : ∀ ys, HdI.own a ys ∉ hs)
    (P : Post K O H (musOf [.mu ds] [.ref a]) out O' H') (s1 : ∀ b, O b → O2 b) (s2 : ∀ b, O2 b → O' b) (s3 : ∀ b, O2 b → O b ∨ H b = none) : StR G K hs σ H' ρ O2 := by
  have only : ∀ i b, musOf [.mu ds] [.ref a] i = some b → b = a := fun i b e => by
    cases i with
    | zero => cases e; rfl
    | succ i => cases e
  have kp : ∀ b o, H b = some o → b ≠ a → H' b = some o := fun b o e n => P.keep b o e fun i hi => n (only i b hi)
  have s : Stq G O H O2 H' := ⟨⟨fun b o e n => kp b o e fun z => n (z ▸ hO), s3⟩, fun b o e n => kp b o e fun z => n (z ▸ .inl h0)⟩
  refine ⟨st.len, fun j tv ej => ?_, st.inj, fun d v hd => Rep.stp s.toStp _ _ (st.held d v hd), fun b ys hb => ?_, fun b h => s1 b (st.outer b h), st.mo, fun b o eb n => ?_, fun b h => P.alloc b (s2 b h), st.mus, st.alloc0⟩
  · obtain ⟨v, e1, q⟩ := st.slot j tv ej
    refine ⟨v, e1, q.stq s (fun ho b ys ev eb => ?_) fun b ys hO eb => ⟨kp b _ eb (fun z => by subst z; rw [hl0] at eb; cases eb), s1 b hO⟩⟩
    have hOb : O b := by
      cases tv with
      | sh d => cases ho
      | bo d => cases ho
      | dc b kvs => cases ho
      | ow cs => obtain ⟨c, zs, z, _, g3, _, _⟩ := q; rw [ev] at z; cases z; exact g3
      | mu cs => obtain ⟨c, zs, z, _, g3, _, _⟩ := q; rw [ev] at z; cases z; exact g3
    exact ⟨kp b _ eb fun z => hn j tv ej ho (by rw [e1, ev, z]), s1 b hOb⟩
  · obtain ⟨h1, h2, h3, h4⟩ := st.pins b ys hb
    exact ⟨kp b _ h1 fun z => hp ys (z ▸ hb), s1 b h2, h3, h4⟩
  · exact kp b o (st.keep b o eb n) fun z => by rw [z, h0] at eb; cases eb
def vCallO (f : PFn) (p : PEv) : PEv := fun ρ Q W => p ρ (fun sv ρ1 => match sv with
  | .ow ds => f [.mu ds] (fun sv2 _ => Q sv2 ρ1) (fun c y _ => W c y ρ1)
  | _ => False) W
theorem vCallO_mono {f : PFn} {p : PEv} (hf : FMono f) (hp : EMono p) : EMono (vCallO f p) := fun ρ Q Q' W W' hQ hW z => hp ρ _ _ _ _ (fun sv r z => by
  cases sv with
  | ow ds => exact hf _ _ _ _ _ (fun sv2 out z => hQ _ _ z) (fun c y out z => hW _ _ _ z) z
  | _ => exact z.elim) hW z
section
variable {X : Cx} {G : Gh} {e : Expr} {pe : PEv} {f : PFn} {k : Nat} {fa : Addr} {fd : FuncData} {pn : List Str} {x : Str} {p pos : Pos}
theorem ve_callO (F : FnV X.prog X.w X.K X.mg X.base k fa fd pn f) (gd : X.A.guards = some []) (hr : Room k X.A) (hg : Gl X x) (hm : X.mg x = some (.ref fa)) (hk : PySem.W.keepIn X.K (.ref fa) = true) (hb : Binds X.K fd pn []) (ha : VE X G e pe)
    (hdb : (x == ("__debug__" : Str)) = false := by decide) (he : starEach [e] X.env = (false, eval e X.env) :: starEach [] X.env := by rfl) (hpl : (backTo pos (starEach [] X.env)).any (·.1) = false := by rfl) :
    VE X G (.Call (.Name x p) [e] [] pos) (vCallO f pe) := by
  refine ⟨vCallO_mono F.mono ha.mono, fun We tk => ⟨fun pins s σ H Q I ⟨hs, ρ, O, st, z⟩ => wpAny_Call_Name_kw (ld_glob I hg hm ?_ hdb)⟩⟩
  refine PySem.W.callWith_K (h₀ := X.base) I.ok.mod.kin hk (thn ((pa_cons (ha.run We tk) pa_nil he).run pos pins s σ H (fun vs H1 => spV X.K pn.length f vs H1 Q (WE (WXof X G We) σ)) I ⟨hs, ρ, O, st, ?_⟩) fun us s1 ⟨vs, H1, I1, rel, q⟩ => ⟨I1.kIn, wp_ofG ?_⟩) he hpl
  · refine ha.mono ρ _ _ _ _ (fun sv r z v H1 O1 st1 rr => ?_) (fun _ _ _ w => w) z
    cases sv with
    | ow ds =>
      obtain ⟨a, xs, rfl, h1, h2, h3, h4, h5, h6⟩ := rr
      have hA : ArgsR X.K O1 H1 [.mu ds] [.ref a] := by
        refine ⟨rfl, fun i sv v e1 e2 => ?_, fun i j b e1 e2 => ?_, st1.alloc⟩
        · cases i with
          | zero => cases e1; cases e2; exact ⟨a, xs, rfl, h1, h2, h4⟩
          | succ i => cases e1
        · cases i with
          | zero =>
            cases j with
            | zero => rfl
            | succ j => cases e2
          | succ i => cases e1
      refine ⟨by have := F.len _ _ _ z; exact this, O1, [.mu ds], hA, F.mono _ _ _ _ _ (fun sv out z v H' O' P rr => ?_) (fun c y out z d H' O' P py => ?_) z⟩
      · cases sv with
        | sh d =>
          have st2 := StR.call1 st1 h1 h2 h3 h5 h6 P (O2 := O1) (fun _ h => h) P.more (fun _ h => .inl h)
          exact z v H' O1 st2 (Rep.stp ⟨fun _ _ e _ => e, fun a h => .inl (P.more a h)⟩ _ _ rr)
        | ow es =>
          obtain ⟨b, ys, rfl, g1, g2, g3, g4⟩ := rr
          have st2 := StR.call1 st1 h1 h2 h3 h5 h6 P (O2 := fun c => O1 c ∨ c = b) (fun _ h => .inl h) (fun c h => h.elim (P.more c) fun e => e ▸ g2) (fun c h => h.elim .inl fun e => .inr (e ▸ g3))
          refine z (.ref b) H' _ st2 ⟨b, ys, rfl, g1, .inr rfl, st1.fresh0 g3, RepL.stp ⟨fun _ _ e _ => e, fun c h => .inl (h.elim (P.more c) fun e => e ▸ g2)⟩ _ _ g4, fun j tv ej oj => ?_, fun zs hz => by rw [(st1.pins b zs hz).1] at g3; cases g3⟩
          exact st1.own_ne g3 j tv ej oj
        | mu ds => cases rr
        | bo ds => cases rr
        | dc b kvs =>
          obtain ⟨rfl, g2, g3, ys, g1, g4⟩ := rr
          have st2 := StR.call1 st1 h1 h2 h3 h5 h6 P (O2 := fun c => O1 c ∨ c = b) (fun _ h => .inl h) (fun c h => h.elim (P.more c) fun e => e ▸ g2) (fun c h => h.elim .inl fun e => .inr (e ▸ g3))
          exact z (.ref b) H' _ st2 ⟨rfl, .inr rfl, st1.fresh0 g3, ys, g1, KvR.stp ⟨fun _ _ e _ => e, fun c h => .inl (h.elim (P.more c) fun e => e ▸ g2)⟩ _ _ g4⟩
      · have st2 := StR.call1 st1 h1 h2 h3 h5 h6 P (O2 := O1) (fun _ h => h) P.more (fun _ h => .inl h)
        refine ⟨hs, r, O1, c, y, rfl, st2, ?_, z⟩
        cases y with
        | none => exact py
        | some fx =>
          obtain ⟨fn, dx⟩ := fx
          obtain ⟨b, v, g1, g2, g3⟩ := py
          exact ⟨b, v, g1, g2, Rep.stp ⟨fun _ _ e _ => e, fun a h => .inl (P.more a h)⟩ _ _ g3⟩
    | sh d => exact z.elim
    | mu ds => exact z.elim
    | bo ds => exact z.elim
    | dc b kvs => exact z.elim
  · have hl : us.length = pn.length := by rw [← rel.length]; exact F.ok.len _ _ _ _ q
    have b := hb s1 us I1.kIn (by rw [List.append_nil]; exact hl)
    rw [List.append_nil] at b
    exact runG (E := WE (WXof X G We)) F.ok gd hr b (passAt tk.tk σ) I1 rel q
end
def owK (sv : SV) (k : List D → Prop) : Prop := match sv with
  | .ow ds => k ds
  | _ => False
theorem owK_ow {ds : List D} {k : List D → Prop} : owK (.ow ds) k = k ds := rfl
theorem vCallO_K {f : PFn} {p : PEv} {ρ : Env} {Q : QV} {W : WxV} : vCallO f p ρ Q W = p ρ (fun sv ρ1 => owK sv fun ds => f [.mu ds] (fun sv2 _ => Q sv2 ρ1) (fun c y _ => W c y ρ1)) W := rfl
/-! ### xs.insert(i, x) -/
theorem fInsert_mono : FM.Mono fInsert := by
  intro cs ds k k' hk h
  unfold fInsert at h ⊢
  split at h
  · exact ⟨h.1, h.2.1, h.2.2.1, hk _ _ h.2.2.2⟩
  · exact h.elim
theorem mv_insert {X : Cx} : MethV X (fun x vs H Q => ∃ (l : Addr) (xs : List V) (i : Int) (y : V), x = .ref l ∧ vs = [.int i, y] ∧ H l = some (.lst xs) ∧ xs.length < sizeLine ∧ 0 ≤ i ∧ i < 2 ^ 63 ∧ Q .non (upd H l (.lst (xs.take i.toNat ++ [y] ++ xs.drop i.toNat)))) fInsert := by
  intro a xs vs cs ds O H Q hx hO rr rv h
  unfold fInsert at h
  split at h
  · rename_i i d
    obtain ⟨h1, h2, h3, h4⟩ := h
    obtain ⟨y, ys, rfl, r1, r2⟩ := repL_cons.mp rv
    obtain ⟨z, zs, rfl, r3, r4⟩ := repL_cons.mp r2
    rw [repL_nil.mp r4, rep_int.mp r1]
    refine ⟨a, xs, i, z, rfl, rfl, hx, lineL (by rw [rr.length]; exact h1), h2, by omega, h4 .non _ ?_ ⟨.non, rfl, rep_non.mpr rfl⟩⟩
    have := ((rr.take i.toNat).append (RepL.one r3)).append (rr.drop i.toNat)
    rw [List.append_assoc] at this
    exact this
  · exact h.elim
theorem fInsert_K {cs : List D} {i : Int} {d : D} {km : List D → SV → Prop} : fInsert cs [.int i, d] km = (cs.length < 16777216 ∧ 0 ≤ i ∧ i < 2 ^ 62 ∧ km (cs.take i.toNat ++ d :: cs.drop i.toNat) (.sh .non)) := rfl
end Vx

namespace Vx
open PySem PySem.Spec PyProof.Rows L2

/-! ### for x in xs: y = e, xs an own list that is own again behind -/
def foldA (i x y : Nat) (p : PEv) (all : List D) : List D → Env → VEnds → Prop
  | [], ρ, D => slotOf ρ i = some (.ow all) ∧ D.nx ρ
  | d :: ds, ρ, D => slotOf ρ i = some (.ow all) ∧ p (ρ.set x (some (.sh d))) (fun sv r => foldA i x y p all ds (r.set y (some sv)) D) D.ex
def vsForA (i x y : Nat) (p : PEv) : PSv := fun ρ D => vRd i ρ fun sv => match sv with
  | .ow ds => foldA i x y p ds ds ρ D
  | _ => False
theorem foldA_mono {i x y : Nat} {p : PEv} {all : List D} (h : EMono p) : ∀ (ds : List D) (ρ : Env) (D D' : VEnds), D.le D' → foldA i x y p all ds ρ D → foldA i x y p all ds ρ D'
  | [], ρ, D, D', hl, z => ⟨z.1, hl.nx _ z.2⟩
  | d :: ds, ρ, D, D', hl, z => ⟨z.1, h _ _ _ _ _ (fun sv r z => foldA_mono h ds _ D D' hl z) hl.ex z.2⟩
theorem vsForA_mono {i x y : Nat} {p : PEv} (h : EMono p) : SMono (vsForA i x y p) := fun ρ D D' hl z => vRd_mono (fun sv z => by
  cases sv with
  | ow ds => exact foldA_mono h ds ρ D D' hl z
  | sh d => exact z
  | mu ds => exact z
  | bo ds => exact z
  | dc b kvs => exact z) z
theorem vs_forA {X : Cx} {G : Gh} {i x y : Nat} {nx ny : Str} {iter e : Expr} {pe : PEv} {p1 p2 p3 pos : Pos} (hc : X.calm = true) (hi : PE X iter (tVar i)) (hN : X.N.Nodup) (hx : X.N[x]? = some nx) (hxl : Loc X.env.scope nx) (hy : X.N[y]? = some ny) (hyl : Loc X.env.scope ny) (he : VE X G e pe) (hix : i ≠ x) (hiy : i ≠ y)
    (hs1 : swapsWith e (some (.Name ny p2)) p3.line X.env = pure false := by rfl)
    (hf1 : X.fn nx = true ∨ X.env.scope.names.lookup nx = some .local := by first | exact .inl rfl | exact .inr rfl | assumption)
    (hf2 : X.fn ny = true ∨ X.env.scope.names.lookup ny = some .local := by first | exact .inl rfl | exact .inr rfl | assumption)
    (hs : ∀ x, foldedSetIterable iter X.env x = pure x := by intro _; rfl) : VS X G (.For (.Name nx p1) iter [.Assign [.Name ny p2] e p3] [] pos) (vsForA i x y pe) := by
  refine ⟨vsForA_mono he.mono, fun We tk => ?_⟩
  refine (ps_for tk.po hc (pi_seq hi) (pg_name hN hx hxl hf1) (pss_one (ps_set hN hy hyl (he.run We tk) hs1 hf2)) hs).weak fun D σ H ⟨hs0, ρ, O, st, z⟩ => ?_
  obtain ⟨sv, hsv, z⟩ := vRd_some z
  cases sv with
  | sh d => exact z.elim
  | mu ds => exact z.elim
  | bo ds => exact z.elim
  | dc b kvs => exact z.elim
  | ow all =>
    obtain ⟨v, e1, sl⟩ := st.slot i _ hsv
    obtain ⟨a, xs0, rfl, h1, h2, h3, r0⟩ := sl
    have at_ : ∀ {σ : L2.St} {H : Hp} {ρ : Env} {O : Own}, StR G X.K hs0 σ H ρ O → slotOf ρ i = some (.ow all) → σ[i]? = some (some (V.ref a)) → ∃ xs, SqL X.K H a xs ∧ RepL X.K O H all xs := fun st hs ha => by
      obtain ⟨v, e1, a', xs, rfl, h1, _, _, r⟩ := st.slot i _ (slotOf_some hs)
      rw [ha] at e1
      cases e1
      exact ⟨xs, SqL.of h1, r⟩
    refine ⟨_, e1, a, rfl, .inl ⟨⟨xs0, SqL.of h1⟩, ?_⟩⟩
    refine ⟨fun k m σ H => ∃ ρ O, StR G X.K hs0 σ H ρ O ∧ k + m = all.length ∧ σ[i]? = some (some (V.ref a)) ∧ foldA i x y pe all (all.drop k) ρ (dR G X.K hs0 D (We hs0)), ⟨all.length, ρ, O, st, by omega, e1, by rw [List.drop_zero]; exact z⟩, ?_⟩
    rintro k m σ H ⟨ρ, O, st, hm, ha, z⟩
    by_cases hk : k < all.length
    · right
      rw [List.drop_eq_getElem_cons hk] at z
      obtain ⟨z1, z2⟩ := z
      obtain ⟨xs, t, r⟩ := at_ st z1 ha
      have hd : all[k]? = some all[k] := List.getElem?_eq_getElem hk
      obtain ⟨w, hw, rw_⟩ := r.get hd
      refine ⟨⟨xs, w, t, hw⟩, fun σ' H' => ∃ ρ O, StR G X.K hs0 σ' H' ρ O ∧ (k + 1) + (m - 1) = all.length ∧ σ'[i]? = some (some (V.ref a)) ∧ foldA i x y pe all (all.drop (k + 1)) ρ (dR G X.K hs0 D (We hs0)), fun σ' H' h => ⟨m - 1, by omega, h⟩, fun u H' hy => ?_⟩
      obtain ⟨rfl, hy⟩ := hy
      have e2 := hy xs t
      rw [hw] at e2
      cases e2
      have st2 := st.set (i := x) (sv := .sh all[k]) rw_
      refine ⟨hs0, _, O, st2, he.mono _ _ _ _ _ (fun sv r z v H' O' st' rv => ?_) (fun _ _ _ w => w) z2⟩
      refine ⟨_, O', st'.set rv, by omega, ?_, z⟩
      rw [List.getElem?_set_ne (fun z => hiy z.symm), List.getElem?_set_ne (fun z => hix z.symm)]
      exact ha
    · left
      rw [List.drop_eq_nil_of_le (by omega)] at z
      obtain ⟨z1, z2⟩ := z
      obtain ⟨xs, t, r⟩ := at_ st z1 ha
      exact ⟨⟨xs, t, by rw [r.length]; omega⟩, z2 σ H O st⟩
/-- by an invariant -/
theorem foldA_ind {i x y : Nat} {p : PEv} {all : List D} {D : VEnds} (I : List Vx.D → Env → Prop) (own : ∀ ds r, I ds r → slotOf r i = some (.ow all))
    (step : ∀ d ds r, I (d :: ds) r → p (r.set x (some (.sh d))) (fun sv r' => I ds (r'.set y (some sv))) D.ex) (hp : EMono p) (done : ∀ r, I [] r → D.nx r) : ∀ ds r, I ds r → foldA i x y p all ds r D
  | [], r, h => ⟨own _ _ h, done _ h⟩
  | d :: ds, r, h => ⟨own _ _ h, hp _ _ _ _ _ (fun sv r z => foldA_ind I own step hp done ds _ z) (fun _ _ _ w => w) (step d ds r h)⟩
end Vx

namespace Vx
open PySem PySem.Spec PyProof.Rows L2

/-! ### a comprehension over an own list that is own again behind -/
def lcLO (i : Nat) (vs : List Nat) (g : PGv) (tt : PTv) (elt : PEv) (all : List D) : List D → List D → Env → (List D → Env → Prop) → Prop
  | [], acc, ρ, k => slotOf ρ i = some (.ow all) ∧ k acc ρ
  | d :: ds, acc, ρ, k => slotOf ρ i = some (.ow all) ∧ g (.sh d) ρ fun r => tt r (fun b r2 => if b = true then elt r2 (fun sv r3 => acc.length < 16777216 ∧ lcLO i vs g tt elt all ds (acc ++ [sv.fz]) (wipeE r3 vs) k) noW else lcLO i vs g tt elt all ds acc (wipeE r2 vs) k) noW
def vLcO (vs : List Nat) (i : Nat) (g : PGv) (tt : PTv) (elt : PEv) : PEv := fun ρ Q _ => vRd i ρ fun sv => match sv with
  | .ow all => lcLO i vs g tt elt all all [] (wipeE ρ vs) fun acc r2 => Q (.ow acc) r2
  | _ => False
theorem lcLO_mono {i : Nat} {vs : List Nat} {g : PGv} {tt : PTv} {elt : PEv} {all : List D} (hg : GMono g) (ht : TMono tt) (he : EMono elt) : ∀ (ds acc : List D) (ρ : Env) (k k' : List D → Env → Prop), (∀ a r, k a r → k' a r) → lcLO i vs g tt elt all ds acc ρ k → lcLO i vs g tt elt all ds acc ρ k'
  | [], acc, ρ, k, k', hk, z => ⟨z.1, hk _ _ z.2⟩
  | d :: ds, acc, ρ, k, k', hk, z => ⟨z.1, hg _ _ _ _ (fun r z => ht r _ _ _ _ (fun b r2 z => by
    split at z
    · rename_i hb
      rw [if_pos hb]
      exact he r2 _ _ _ _ (fun sv r3 z => ⟨z.1, lcLO_mono hg ht he ds _ _ k k' hk z.2⟩) (fun _ _ _ w => w) z
    · rename_i hb
      rw [if_neg hb]
      exact lcLO_mono hg ht he ds _ _ k k' hk z) (fun _ _ _ w => w) z) z.2⟩
section
variable {X : Cx} {G : Gh} {We : Hd → WxV} {elt tg iter : Expr} {ifs : List Expr} {scope : Scope} {own : List (Str × Nat)} {pos : Pos} {g : PGv} {tt : PTv} {pe : PEv} {is : List Nat} {i0 : Nat}
theorem vLcO_mono {vs : List Nat} (hg : GMono g) (ht : TMono tt) (he : EMono pe) : EMono (vLcO vs i0 g tt pe) := fun ρ Q Q' W W' hQ hW z => vRd_mono (fun sv z => by
  cases sv with
  | ow ds => exact lcLO_mono hg ht he _ _ _ _ _ (fun acc r2 z => hQ _ _ z) z
  | sh d => exact z
  | mu ds => exact z
  | bo ds => exact z
  | dc b kvs => exact z) z
theorem tLcO_of (hg : GMono g) (ht : TMono tt) (he : EMono pe) (his : ∀ i, i ∈ is → i ∈ own.map (·.2)) {σ : L2.St} {H : Hp} {Q : VK}
    (z : TV G X.K (vLcO (own.map (·.2)) i0 g tt pe) We σ H Q) : tLc (iSeq X.K (tVar i0)) (TGv G X.K g is) (TTv G X.K tt fun _ => noW) (TV G X.K pe fun _ => noW) (own.map (·.2)) σ H Q := by
  obtain ⟨hs, ρ, O, st, z⟩ := z
  obtain ⟨sv, hsv, z⟩ := vRd_some z
  cases sv with
  | sh d => exact z.elim
  | mu ds => exact z.elim
  | bo ds => exact z.elim
  | dc b kvs => exact z.elim
  | ow all =>
    obtain ⟨v0, e1, sl⟩ := st.slot i0 _ hsv
    obtain ⟨a, xs0, rfl, h1, h2, h3, r0⟩ := sl
    have at_ : ∀ {hs2 : Hd} {H : Hp} {ρ : Env} {O : Own}, StR G X.K hs2 σ H ρ O → slotOf ρ i0 = some (.ow all) → ∃ xs, SqL X.K H a xs ∧ RepL X.K O H all xs := fun st hs => by
      obtain ⟨v, e2, a', xs, rfl, h1, _, _, r⟩ := st.slot i0 _ (slotOf_some hs)
      rw [e1] at e2
      cases e2
      exact ⟨xs, SqL.of h1, r⟩
    refine ⟨_, e1, a, rfl, .inl ⟨⟨xs0, SqL.of h1⟩, fun Da hD => ?_⟩⟩
    generalize hvs : own.map (·.2) = vs at z his
    have hfr : ∀ zs, HdI.own Da zs ∉ hs := fun zs hz => by rw [(st.pins Da zs hz).1] at hD; cases hD
    refine ⟨fun i m H => ∃ ρ O acc xs, StR G X.K (.own Da xs :: (zipV acc xs ++ hs)) σ H ρ O ∧ xs.length = acc.length ∧ (∀ (i : Nat) (sv : SV), ρ[i]? = some (some sv) → i ∉ vs) ∧ i + m = all.length ∧
      lcLO i0 vs g tt pe all (all.drop i) acc ρ (fun acc r2 => ∀ v H' O', StR G X.K hs σ H' r2 O' → ResR G X.K hs σ r2 O' H' (.ow acc) v → Q v H'), ⟨all.length, ?_⟩, ?_⟩
    · obtain ⟨st2, r2⟩ := st.resLst (ds := []) hD (repL_nil.mpr rfl)
      obtain ⟨a2, xs, e, rr, st3⟩ := st2.pin r2
      cases e
      rw [repL_nil.mp rr] at st3
      exact ⟨wipeE ρ vs, _, [], [], st3.wipe vs, rfl, fun i sv h => (wipeE_some h).2, by omega, by rw [List.drop_zero]; exact z⟩
    · rintro i m H ⟨ρ, O, acc, xs, st, hl, hw, hm, z⟩
      have hz : ∀ zs, HdI.own Da zs ∉ zipV acc xs ++ hs := fun zs hz => by
        rcases List.mem_append.mp hz with hz | hz
        · have key : ∀ (acc : List D) (xs : List V), HdI.own Da zs ∉ zipV acc xs := by
            intro acc
            induction acc with
            | nil => intro xs h; unfold zipV at h; cases h
            | cons d ds ih =>
              intro xs h
              cases xs with
              | nil => unfold zipV at h; cases h
              | cons x xs => exact ih xs (by rcases List.mem_cons.mp (show HdI.own Da zs ∈ HdI.val d x :: zipV ds xs from h) with e | h
                                             · cases e
                                             · exact h)
          exact key acc xs hz
        · exact hfr zs hz
      have sub1 : ∀ p, p ∈ hs → p ∈ HdI.own Da xs :: (zipV acc xs ++ hs) := fun p hp => List.mem_cons_of_mem _ (List.mem_append_right _ hp)
      by_cases hi : i < all.length
      · right
        rw [List.drop_eq_getElem_cons hi] at z
        obtain ⟨z1, z⟩ := z
        obtain ⟨ys, t, rr⟩ := at_ st z1
        have hd : all[i]? = some all[i] := List.getElem?_eq_getElem hi
        obtain ⟨w, hw2, rw2⟩ := rr.get hd
        refine ⟨⟨ys, w, t, hw2⟩, fun H => ∃ ρ O acc xs, StR G X.K (.own Da xs :: (zipV acc xs ++ hs)) σ H ρ O ∧ xs.length = acc.length ∧ (∀ (i : Nat) (sv : SV), ρ[i]? = some (some sv) → i ∉ vs) ∧ (i + 1) + (m - 1) = all.length ∧
          lcLO i0 vs g tt pe all (all.drop (i + 1)) acc ρ (fun acc r2 => ∀ v H' O', StR G X.K hs σ H' r2 O' → ResR G X.K hs σ r2 O' H' (.ow acc) v → Q v H'), fun H' h => ⟨m - 1, by omega, h⟩, fun x H' hy => ?_⟩
        obtain ⟨rfl, hy⟩ := hy
        have e2 := hy ys t
        rw [hw2] at e2
        cases e2
        have stw : StR G X.K (.own Da xs :: (zipV acc xs ++ hs)) (L2.wipe σ vs) H' ρ O := st.resig (wipe_length _ _) fun j sv e => wipe_get (hw j sv e)
        refine ⟨_, ρ, O, .sh all[i], stw, rw2, hg _ _ _ _ (fun r z σ2 O2 on st2 => ?_) z⟩
        have hwp := wipe_only on his
        refine ⟨hwp, _, r, O2, st2, ht r _ _ _ _ (fun b r2 z H3 O3 st3 => ?_) (fun _ _ _ w => w) z⟩
        split at z
        · rename_i hb
          rw [if_pos hb]
          refine ⟨_, r2, O3, st3, he r2 _ _ _ _ (fun sv r3 z v H4 O4 st4 rv => ?_) (fun _ _ _ w => w) z⟩
          obtain ⟨O5, st5, _, rv5⟩ := ResR.freeze st4 rv
          obtain ⟨p1, _⟩ := st5.pins Da xs List.mem_cons_self
          have racc : RepL X.K O5 H4 acc xs := st5.heldL hl fun p hp => List.mem_cons_of_mem _ (List.mem_append_left _ hp)
          refine ⟨xs, p1, lineL (by rw [hl]; exact z.1), ?_⟩
          obtain ⟨st6, s6⟩ := st5.pinWrite (ys := xs ++ [v]) hz
          have racc6 : RepL X.K O5 (upd H4 Da (.lst (xs ++ [v]))) (acc ++ [sv.fz]) (xs ++ [v]) := (RepL.stp s6 _ _ racc).append (RepL.one (Rep.stp s6 _ _ rv5))
          have st7 : StR G X.K (.own Da (xs ++ [v]) :: (zipV (acc ++ [sv.fz]) (xs ++ [v]) ++ hs)) σ2 (upd H4 Da (.lst (xs ++ [v]))) r3 O5 := by
            have hh := (st6.fewer (hs' := .own Da (xs ++ [v]) :: hs) fun p hp => by
              rcases List.mem_cons.mp hp with e | hp
              · rw [e]; exact List.mem_cons_self
              · exact List.mem_cons_of_mem _ (List.mem_append_right _ hp)).holdL racc6
            exact hh.fewer fun p hp => by
              rcases List.mem_cons.mp hp with e | hp
              · rw [e]; exact List.mem_append_right _ List.mem_cons_self
              · rcases List.mem_append.mp hp with hp | hp
                · exact List.mem_append_left _ hp
                · exact List.mem_append_right _ (List.mem_cons_of_mem _ hp)
          exact ⟨wipeE r3 vs, O5, acc ++ [sv.fz], xs ++ [v], st7.unwipe hwp, by rw [List.length_append, List.length_append, hl]; rfl, fun j sv e => (wipeE_some e).2, by omega, z.2⟩
        · rename_i hb
          rw [if_neg hb]
          exact ⟨wipeE r2 vs, O3, acc, xs, st3.unwipe hwp, hl, fun j sv e => (wipeE_some e).2, by omega, z⟩
      · left
        rw [List.drop_eq_nil_of_le (by omega)] at z
        obtain ⟨z1, z⟩ := z
        obtain ⟨ys, t, rr⟩ := at_ st z1
        refine ⟨⟨ys, t, by rw [rr.length]; omega⟩, ?_⟩
        obtain ⟨p1, p2, p3, p4⟩ := st.pins Da xs List.mem_cons_self
        have racc : RepL X.K O H acc xs := st.heldL hl fun p hp => List.mem_cons_of_mem _ (List.mem_append_left _ hp)
        exact z (.ref Da) H O (st.fewer fun p hp => sub1 p hp) ⟨Da, xs, rfl, p1, p2, p3, racc, p4, fun ys hy => hfr ys hy⟩
theorem ve_lcmO (hc : X.calm = true) (hN : X.N.Nodup) (hi : PE X iter (tVar i0)) (ok : BlkOk X.N X.env.scope scope own)
    (hg : ∀ (s : Shared) (H : Hp) (C : Addr) (cl : List (Str × Addr)) (fp : List Addr), VG (X.blk s H scope (compEnvC scope cl C X.env) fp) G tg g is) (his : ∀ i, i ∈ is → i ∈ own.map (·.2))
    (ht : ∀ (s : Shared) (H : Hp) (C : Addr) (cl : List (Str × Addr)) (fp : List Addr), VTs (X.blk s H scope (compEnvC scope cl C X.env) fp) G ifs tt)
    (he : ∀ (s : Shared) (H : Hp) (C : Addr) (cl : List (Str × Addr)) (fp : List Addr), VE (X.blk s H scope (compEnvC scope cl C X.env) fp) G elt pe) (hs : ∀ x, foldedSetIterable iter X.env x = pure x := by intro _; rfl) :
    VE X G (.ListComp elt [⟨tg, iter, ifs, 0⟩] scope pos) (vLcO (own.map (·.2)) i0 g tt pe) := by
  have gm := (hg sh0 (fun _ => none) 0 [] []).mono
  have tm := (ht sh0 (fun _ => none) 0 [] []).mono
  have em := (he sh0 (fun _ => none) 0 [] []).mono
  refine ⟨vLcO_mono gm tm em, fun We tk => ?_⟩
  exact (pe_lc (te := TV G X.K pe fun _ => noW) (tt := TTv G X.K tt fun _ => noW) (g := TGv G X.K g is) hc hN (pi_seq hi) ok (fun s H C cl fp => (hg s H C cl fp).run) (fun s H C cl fp => (ht s H C cl fp).run _ (tk_no rfl)) (fun s H C cl fp => (he s H C cl fp).run _ (tk_no rfl)) hs).weak fun σ H Q z => tLcO_of gm tm em his z
end
/-- [e for x in xs] -/
theorem comp_mapO {i v : Nat} {body : PEv} {ρ : Env} {α : Type} {xs : List α} {f g : α → D} {k : List D → Env → Prop} (hi : slotOf ρ i = some (.ow (xs.map f))) (hw : ρ.set v none = ρ)
    (hb : ∀ x ∈ xs, ∀ Q : QV, (∀ sv, sv.fz = g x → Q sv (ρ.set v (some (.sh (f x))))) → body (ρ.set v (some (.sh (f x)))) Q noW)
    (hl : xs.length < 16777216) (h : k (xs.map g) ρ) : lcLO i [v] (vgName v) vtYes body (xs.map f) (xs.map f) [] ρ k := by
  have hwipe : ∀ x, wipeE (ρ.set v x) [v] = ρ := fun x => by
    show (ρ.set v x).set v none = ρ
    rw [List.set_set, hw]
  have key : ∀ (cs as : List α), xs = as ++ cs → lcLO i [v] (vgName v) vtYes body (xs.map f) (cs.map f) (as.map g) ρ k := by
    intro cs
    induction cs with
    | nil => intro as e; rw [List.append_nil] at e; subst e; exact ⟨hi, h⟩
    | cons c cs ih =>
      intro as e
      refine ⟨hi, ?_⟩
      refine hb c (by rw [e]; exact List.mem_append_right _ List.mem_cons_self) _ fun sv e2 => ?_
      refine ⟨?_, ?_⟩
      · rw [List.length_map]
        have : as.length ≤ xs.length := by rw [e, List.length_append]; omega
        omega
      · rw [hwipe, e2]
        have := ih (as ++ [c]) (by rw [e, List.append_assoc]; rfl)
        rw [List.map_append] at this
        exact this
  exact key xs [] rfl
end Vx

namespace Vx
open PySem PySem.Spec PyProof.Rows L2

/-! ### list(range(n)) -/
def vListRg (p : PEv) : PEv := fun ρ Q W => p ρ (fun sv r => match sv with
  | .sh (.int n) => 0 ≤ n ∧ n ≤ 16777216 ∧ Q (.ow (intsFrom 0 n.toNat)) r
  | _ => False) W
theorem ve_listRg {X : Cx} {G : Gh} {a : Expr} {pa : PEv} {p p2 pos pos2 : Pos} (hc : X.calm = true) (hg : Gl X "list") (hm : X.mg "list" = none) (hg2 : Gl X "range") (hm2 : X.mg "range" = none) (ha : VE X G a pa)
    (na : starEach [a] X.env = (false, eval a X.env) :: starEach [] X.env := by rfl)
    (na2 : starEach [Expr.Call (.Name "range" p2) [a] [] pos2] X.env = (false, eval (.Call (.Name "range" p2) [a] [] pos2) X.env) :: starEach [] X.env := by rfl) :
    VE X G (.Call (.Name "list" p) [.Call (.Name "range" p2) [a] [] pos2] [] pos) (vListRg pa) := by
  refine ⟨fun ρ Q Q' W W' hQ hW z => ha.mono ρ _ _ _ _ (fun sv r z => ?_) hW z, fun We tk => (pe_listRg hc hg hm (prg_1 (pos := pos2) (p := p2) hg2 hm2 (ha.run We tk) na) na2).weak fun σ H Q ⟨hs, ρ, O, st, z⟩ => ⟨hs, ρ, O, st, ha.mono ρ _ _ _ _ (fun sv r z v H' O' st' rv => ?_) (fun _ _ _ w => w) z⟩⟩
  · split at z
    · exact ⟨z.1, z.2.1, hQ _ _ z.2.2⟩
    · exact z.elim
  · split at z
    · rename_i n
      obtain ⟨z1, z2, z3⟩ := z
      have e := rep_int.mp (show Rep X.K O' H' (.int n) v from rv)
      subst e
      refine ⟨n, rfl, RgOk.of_le (by omega) z2 (by omega) z1, fun q hq => ?_⟩
      have e1 : rgV 0 n = ((List.range n.toNat).map fun i : Nat => (0 : Int) + (i : Int)).map V.int := by
        unfold rgV
        rw [List.map_map, Int.sub_zero]
        rfl
      have e2 : intsFrom 0 n.toNat = ((List.range n.toNat).map fun i : Nat => (0 : Int) + (i : Int)).map D.int := by
        unfold intsFrom
        rw [List.map_map]
        rfl
      rw [e1]
      rw [e2] at z3
      obtain ⟨st3, r3⟩ := st'.resLst (ds := ((List.range n.toNat).map fun i : Nat => (0 : Int) + (i : Int)).map D.int) hq RepL.ints
      exact z3 _ _ _ st3 r3
    · exact z.elim
theorem vListRg_K {p : PEv} {ρ : Env} {Q : QV} {W : WxV} : vListRg p ρ Q W = p ρ (fun sv r => match sv with
  | .sh (.int n) => 0 ≤ n ∧ n ≤ 16777216 ∧ Q (.ow (intsFrom 0 n.toNat)) r
  | _ => False) W := rfl
end Vx

namespace Vx
open PySem PySem.Spec PyProof.Rows L2

/-! ### try: body, except X: suite -/
/-- what is known of classes: c is caught by 'except x' -/
inductive Exms (K : PySem.W.Frag) (x : Str) : List (Str × Bool) → Prop where
  | nil : Exms K x []
  | cons {c : Str} {b : Bool} {l : List (Str × Bool)} (h : (He.Fa.exm c x b).ok K = true) (t : Exms K x l) : Exms K x ((c, b) :: l)
def mch : List (Str × Bool) → Str → Option Bool
  | [], _ => none
  | (c, b) :: l, x => if x = c then some b else mch l x
theorem Exms.at_ {K : PySem.W.Frag} {x : Str} : ∀ {l : List (Str × Bool)}, Exms K x l → ∀ {c : Str} {b : Bool}, mch l c = some b → PySem.W.exmOne K (.ref (He.ga K c)) (.ref (He.ga K x)) = some b
  | _, .nil, c, b, h => by cases h
  | _, .cons (c := c0) (b := b0) (l := l) h0 t, c, b, h => by
    unfold mch at h
    split at h
    · rename_i e
      cases h
      subst e
      exact of_decide_eq_true h0
    · exact t.at_ h
def tryK (l : List (Str × Bool)) (c : Str) (kt kf : Prop) : Prop := match mch l c with
  | some true => kt
  | some false => kf
  | none => False
theorem tryK_mono {l : List (Str × Bool)} {c : Str} {kt kf kt' kf' : Prop} (h1 : kt → kt') (h2 : kf → kf') (h : tryK l c kt kf) : tryK l c kt' kf' := by
  unfold tryK at h ⊢
  split at h
  · exact h1 h
  · exact h2 h
  · exact h.elim
def vsTry (l : List (Str × Bool)) (pb ps : PSv) : PSv := fun ρ D => pb ρ { D with ex := fun c y r => tryK l c (ps r { D with ex := noW }) (D.ex c y r) }
section
variable {X : Cx} {G : Gh}
/-- a wish of the library's as one of ours -/
def wUp (G : Gh) (K : PySem.W.Frag) (W : WX) : Hd → WxV := fun hs c y ρ => ∀ σ H O d, StR G K hs σ H ρ O → PayR K O H y d → W (clsV K c) d σ H
theorem wUp_tk {W : WX} (tk : L2.Takes X W) (po : PassesOwn (model X.prog X.w) X.A X.env X.xe) : Tk X G (wUp G X.K W) :=
  ⟨tk.imp fun c d σ H ⟨hs, ρ, O, x, y, ec, st, py, hw⟩ => ec ▸ hw σ H O d st py, po, fun hs hs' sub c y r h σ H O d st py => h σ H O d (st.fewer sub) py⟩
theorem vs_try {x : Str} {l : List (Str × Bool)} {body suite : List Stmt} {b₀ : Stmt} {np pos pos' : Pos} {pb ps : PSv} (hs : X.stack = X.env :: X.outer) (hf : X.env.frame = some X.env.locals) (hg : Gl X x) (gC : X.mg x = some (.ref (He.ga X.K x))) (hm : Exms X.K x l)
    (hb : ∀ (pn : List (Addr × Obj)) (xe : Value → Shared → Prop), VSs (X.tr pn xe) G body pb) (hsu : ∀ (a : Addr) (pn : List (Addr × Obj)), VSs (X.suite a pn) G (b₀ :: suite) ps) (hdb : (x == ("__debug__" : Str)) = false := by decide) :
    VS X G (.Try body [.ExceptHandler (some (.Name x np)) none (b₀ :: suite) pos'] [] [] pos) (vsTry l pb ps) := by
  have mb : SMono pb := (hb X.pn X.xe).mono
  have ms : SMono ps := (hsu 0 []).mono
  have mx : ∀ {D D' : VEnds} {r : Vx.Env}, D.le D' → ps r { D with ex := noW } → ps r { D' with ex := noW } := fun {D D' r} hle h => ms r { D with ex := noW } { D' with ex := noW } ⟨hle.nx, hle.rt, hle.bk, hle.ct, fun _ _ _ h => h⟩ h
  have mt : SMono (vsTry l pb ps) := fun ρ D D' hle z => mb ρ { D with ex := fun c y r => tryK l c (ps r { D with ex := noW }) (D.ex c y r) } { D' with ex := fun c y r => tryK l c (ps r { D' with ex := noW }) (D'.ex c y r) } ⟨hle.nx, hle.rt, hle.bk, hle.ct, fun c y r h => tryK_mono (mx hle) (hle.ex _ _ _) h⟩ z
  refine ⟨mt, fun We tk => ?_⟩
  refine (ps_try_only (c := .ref (He.ga X.K x)) (tb := fun W => TSv G X.K pb (wUp G X.K W)) (ts := fun _ _ _ => TSv G X.K ps fun _ => noW) hs hf ⟨hg, hdb, .inl gC⟩ tk.tk (fun W pn xe tk' po' => (hb pn xe).run _ (wUp_tk tk' po')) (fun a oe cls d pn _ _ => (hsu a _).run _ (tk_no rfl))).weak fun D σ H ⟨hs, ρ, O, st, z⟩ => ⟨hs, ρ, O, st, ?_⟩
  refine mb ρ { dR G X.K hs D (We hs) with ex := fun c y r => tryK l c (ps r { dR G X.K hs D (We hs) with ex := noW }) (We hs c y r) } _ ⟨fun _ h => h, fun _ _ h => h, fun _ h => h, fun _ h => h, fun c y r h σ' H' O' d st' py => ?_⟩ z
  have h' : tryK l c (ps r { dR G X.K hs D (We hs) with ex := noW }) (We hs c y r) := h
  unfold tryK at h'
  split at h'
  · rename_i hmc
    exact ⟨true, hm.at_ hmc, fun _ a na => ⟨hs, r, O', st', h'⟩, fun e => (nomatch e)⟩
  · rename_i hmc
    exact ⟨false, hm.at_ hmc, fun e => (nomatch e), fun _ => ⟨hs, r, O', c, y, rfl, st', py, h'⟩⟩
  · exact h'.elim
end
theorem vsTry_K {l : List (Str × Bool)} {pb ps : PSv} {ρ : Env} {D : VEnds} : vsTry l pb ps ρ D = pb ρ { nx := D.nx, rt := D.rt, bk := D.bk, ct := D.ct, ex := fun c y r => tryK l c (ps r { nx := D.nx, rt := D.rt, bk := D.bk, ct := D.ct, ex := noW }) (D.ex c y r) } := rfl

/-! ### sorted(set(xs)), a longer list with few members -/
def tSortSetW (K : PySem.W.Frag) (ta : TE) : TE := fun σ H Q => ta σ H fun x H1 => ∃ (l : Addr) (ns : List Int), x = .ref l ∧ SqL K H1 l (ns.map V.int) ∧ ns.length < 4000 ∧ (∀ ms : List Int, ms.Nodup → (∀ k, k ∈ ms ↔ k ∈ ns) → ms.length < 64) ∧ ∀ (ms : List Int) p, ms.Pairwise (· < ·) → (∀ k, k ∈ ms ↔ k ∈ ns) → H1 p = none → Q (.ref p) (upd H1 p (.lst (ms.map V.int)))
theorem pe_sortSetW {X : Cx} {a : Expr} {ta : TE} {p p2 q pos : Pos} (hc : X.calm = true) (hg : Gl X "sorted") (hm : X.mg "sorted" = none) (hg2 : Gl X "set") (hm2 : X.mg "set" = none) (ha : PE X a ta)
    (na : starEach [a] X.env = (false, eval a X.env) :: starEach [] X.env := by rfl) : PE X (.Call (.Name "sorted" p) [.Call (.Name "set" p2) [a] [] q] [] pos) (tSortSetW X.K ta) := by
  refine ⟨fun pins s σ H Q I h => ?_⟩
  refine Call_ (ld_blt I hg hm (show bootBuiltins "sorted" = some (.builtin "sorted") by decide +kernel) ?_)
  refine PyProof.Rows.callWith_builtin1 (PyProof.Rows.args_cons ?_ rfl) rfl rfl
  refine Call_ (ld_blt I hg2 hm2 boot_set ?_)
  refine PyProof.Rows.callWith_type1 (PyProof.Rows.args_cons (thn (ha.run pins s σ H _ I h) fun v s1 ⟨x, H1, I1, r1, q1⟩ => PyProof.Rows.args_nil ?_) na) na rfl
  obtain ⟨l, ns, rfl, hq, hlen, h64, q1⟩ := q1
  cases r1
  obtain ⟨its, r, pl, hz⟩ := I1.list hq
  refine set_of_list ns (I1.ok.hd hc) pl.isList (by simpa using ints_of_vals r) (by have : (4010 : Nat) < scanBound := by decide
                                                                                    omega) fun h' tk c R hcn hk => ?_
  refine PyProof.Rows.args_nil ?_
  have I2 : Inv X pins σ H1 { s1 with heap := h', toks := tk } := I1.kept fun b o e => hk b o e
  generalize hs2 : ({ s1 with heap := h', toks := tk } : Shared) = s2 at I2
  have R2 : SetR X.w s2.heap s1.heap.objs.size (fun j => decide (j ∈ ns)) c := by rw [← hs2]; exact R
  have hc64 : c < 64 := by
    obtain ⟨o, es, ep, t, _, _, _, _, nd, hmem, _, _, hn, _, _⟩ := id R2
    have h := h64 (es.toList.map keyOf) nd fun k => by rw [← hmem k]; simp
    rw [List.length_map, Array.length_toList, hn] at h
    exact h
  refine sorted_set R2 (I1.ok.hd hc) hc64 fun s' p out c ms k g o hp hg hi hs hm hl => ?_
  have hlen : (ms.map V.int).length ≤ sizeLine := by rw [List.length_map, hl, sizeLine_eq]; omega
  have hn : H1 p = none := I2.hok.fresh hp
  have J : Inv X pins σ (upd H1 p (.lst (ms.map V.int))) { s2 with heap := s'.heap, gens := s'.gens, drawn := s'.drawn, toks := s'.toks } :=
    I2.call (ch := []) (Un.laid k hp hn) (I2.hok.laid k hp ⟨hlen, out.toList, c, vals_of_ints hi, hg⟩) (by rw [g]; exact I2.bare) (fun _ z => nomatch z)
  have e : s' = { s2 with heap := s'.heap, gens := s'.gens, drawn := s'.drawn, toks := s'.toks } := by
    cases s'
    cases s2
    cases o
    rfl
  rw [e]
  exact ⟨.ref p, _, J, rfl, q1 ms p hs (fun k => by rw [hm k]; simp) hn⟩
def fSortSetW : D → (SV → Prop) → Prop
  | .lst ds, k => match intsOf ds with
    | some ns => ns.length < 4000 ∧ (∀ ms : List Int, ms.Nodup → (∀ k, k ∈ ms ↔ k ∈ ns) → ms.length < 64) ∧ ∀ ms : List Int, ms.Pairwise (· < ·) → (∀ i, i ∈ ms ↔ i ∈ ns) → k (.ow (ms.map D.int))
    | none => False
  | _, _ => False
def vSortSetW (p : PEv) : PEv := fun ρ Q W => p ρ (fun sv r => fSortSetW sv.fz fun sv2 => Q sv2 r) W
theorem fSortSetW_mono {d : D} {k k' : SV → Prop} (hk : ∀ sv, k sv → k' sv) (h : fSortSetW d k) : fSortSetW d k' := by
  unfold fSortSetW at h ⊢
  split at h
  · split at h
    · exact ⟨h.1, h.2.1, fun m h1 h2 => hk _ (h.2.2 m h1 h2)⟩
    · exact h.elim
  · exact h.elim
theorem ve_sortSetW {X : Cx} {G : Gh} {a : Expr} {pa : PEv} {p p2 q pos : Pos} (hc : X.calm = true) (hg : Gl X "sorted") (hm : X.mg "sorted" = none) (hg2 : Gl X "set") (hm2 : X.mg "set" = none) (ha : VE X G a pa)
    (na : starEach [a] X.env = (false, eval a X.env) :: starEach [] X.env := by rfl) : VE X G (.Call (.Name "sorted" p) [.Call (.Name "set" p2) [a] [] q] [] pos) (vSortSetW pa) := by
  refine ⟨fun ρ Q Q' W W' hQ hW z => ha.mono ρ _ _ _ _ (fun sv r z => fSortSetW_mono (fun sv2 z => hQ _ _ z) z) hW z, fun We tk => (pe_sortSetW hc hg hm hg2 hm2 (ha.run We tk) na).weak fun σ H Q ⟨hs, ρ, O, st, z⟩ => ⟨hs, ρ, O, st, ha.mono ρ _ _ _ _ (fun sv r z v H' O' st' rv => ?_) (fun _ _ _ w => w) z⟩⟩
  obtain ⟨O2, st2, _, r2⟩ := ResR.freeze st' rv
  generalize sv.fz = d at r2 z
  unfold fSortSetW at z
  split at z
  · split at z
    · rename_i ds k ns e
      obtain ⟨b, ys, rfl, t, rr⟩ := rep_lst.mp r2
      rw [intsOf_eq e] at rr
      have := rr.ints_eq
      subst this
      refine ⟨b, ns, rfl, t.sq, z.1, z.2.1, fun ms p h1 h2 hp => ?_⟩
      obtain ⟨st3, r3⟩ := st2.resLst (ds := ms.map D.int) hp RepL.ints
      exact z.2.2 ms h1 h2 _ _ _ st3 r3
    · exact z.elim
  · exact z.elim
theorem vSortSetW_sh {p : PEv} {ρ : Env} {Q : QV} {W : WxV} : vSortSetW p ρ Q W = p ρ (fun sv r => fzK sv fun d => fSortSetW d fun sv2 => Q sv2 r) W := rfl
theorem fSortSetW_ints {ns : List Int} {k : SV → Prop} : fSortSetW (.lst (ns.map D.int)) k = (ns.length < 4000 ∧ (∀ ms : List Int, ms.Nodup → (∀ k, k ∈ ms ↔ k ∈ ns) → ms.length < 64) ∧ ∀ ms : List Int, ms.Pairwise (· < ·) → (∀ i, i ∈ ms ↔ i ∈ ns) → k (.ow (ms.map D.int))) := by
  have e : intsOf (ns.map D.int) = some ns := by
    induction ns with
    | nil => rfl
    | cons n t ih =>
      show (intsOf (t.map D.int)).map (n :: ·) = _
      rw [ih]; rfl
  show (match intsOf (ns.map D.int) with | some ns => _ | none => _) = _
  rw [e]
end Vx

namespace Vx
open PySem PySem.Spec PyProof.Rows L2

/-! ### the head's facts, looked at level by level -/
def refsA (g : Addr → Option Obj) (a : Addr) : List Addr := match g a with
  | some o => He.refsD o
  | none => []
def levL (g : Addr → Option Obj) : Nat → List Addr → List Addr
  | 0, l => l
  | n + 1, l => l ++ levL g n (l.flatMap (refsA g))
def obsL (n : Nat) (fa : List He.Fa) (cs : List (Str × D)) (fn : List He.DefD) (g : Addr → Option Obj) : AlX := obsX fa cs fn (He.frG g (levL g n [mainGlobals]))
def hookL (n : Nat) (fa : List He.Fa) (cs : List (Str × D)) (fn : List He.DefD) : PySem.W.Hook where
  α := AlX
  val := fun _ => valX fn
  obs := fun s => obsL n fa cs fn s.heap.get?
  says := fun _ h => ∃ K : PySem.W.Frag, K.In h ∧ SaysX fa cs fn K
  keeps := fun _ _ _ ⟨K, inK, c⟩ k => ⟨K, PySem.W.Frag.In.keeps inK k, c⟩
  of := fun _ _ e => ⟨_, He.frG_in, e⟩
theorem obsL_eq {n : Nat} {fa : List He.Fa} {cs : List (Str × D)} {fn : List He.DefD} {g : Addr → Option Obj} {s : Shared} (h : ∀ a, g a = s.heap.get? a) : obsL n fa cs fn g = (hookL n fa cs fn).obs s := by
  have e : g = s.heap.get? := funext h
  subst e
  rfl
end Vx

namespace Vx
open PySem PySem.Spec PyProof.Rows L2

/-! ### divmod(i, j), j positive and small -/
def fDivmod : FN
  | [.int i, .int j], k => 0 < j ∧ j < 1073741824 ∧ k (.sh (.tup [.int (i / j), .int (i % j)]))
  | _, _ => False
theorem fDivmod_mono : FN.Mono fDivmod := by
  intro ds k k' hk h
  unfold fDivmod at h ⊢
  split at h
  · exact ⟨h.1, h.2.1, hk _ h.2.2⟩
  · exact h.elim
abbrev rDivmod : List V → Hp → VK → Prop := fun xs H Q => ∃ i j, xs = [.int i, .int j] ∧ 0 < j ∧ j < 1073741824 ∧ ∀ l, H l = none → Q (.ref l) (upd H l (.tup [.int (i / j), .int (i % j)]))
section
variable {X : Cx} {G : Gh}
theorem call_divmodV : CallR X (.builtin "divmod") rDivmod := by
  intro pins s σ H xs us Q I r h
  obtain ⟨i, j, rfl, h0, h1, q⟩ := h
  obtain ⟨u, w', rfl, ⟨t, rfl⟩, ⟨t', rfl⟩⟩ := vals2 r
  refine divmod_int (by omega) ?_ (.inl (PyProof.noPylong_small (by omega)))
  have e1 : i.fdiv j = i / j := Int.fdiv_eq_ediv_of_nonneg i (by omega)
  have e2 : i.fmod j = i % j := Int.fmod_eq_emod_of_nonneg i (by omega)
  rw [e1, e2]
  have I2 : Inv X pins σ (upd H s.heap.objs.size (.tup [.int (i / j), .int (i % j)])) { s with toks := s.toks + 1 + 1, heap := s.heap.push { cls := .type "tuple", data := .seq #[.int (i / j) s.toks, .int (i % j) (s.toks + 1)] } } :=
    I.laid (t' := s.toks + 1 + 1) (fun b o e => Heap.get?_push_of_some _ e) (Nat.le_refl _) (show ObjOk X.prog X.w _ _ _ (.tup [.int (i / j), .int (i % j)]) from ⟨lineN (by simp), [.int (i / j) s.toks, .int (i % j) (s.toks + 1)], .cons ⟨_, rfl⟩ (.cons ⟨_, rfl⟩ .nil), IsTup.new _ _⟩)
  exact ⟨.ref s.heap.objs.size, _, I2, rfl, q _ (I.hok.fresh (Nat.le_refl _))⟩
theorem cv_divmod : CallV X G rDivmod fDivmod := by
  intro σ hs ρ O H xs ds Q st vx hf
  unfold fDivmod at hf
  split at hf
  · obtain ⟨v, w, rfl, h1, h2⟩ := viewL_two vx
    rw [view_int h1, view_int h2]
    refine ⟨_, _, rfl, hf.1, hf.2.1, fun p hp => ?_⟩
    obtain ⟨st', r'⟩ := st.resTup hp (ds := [.int _, .int _]) (repL_cons.mpr ⟨_, _, rfl, rep_int.mpr rfl, RepL.one (rep_int.mpr rfl)⟩)
    exact hf.2.2 _ _ _ st' r'
  · exact hf.elim
end
end Vx

namespace Vx
open PySem PySem.Spec PyProof.Rows L2

/-! ### list(range(a, b)) -/
def vListRg2 (p q : PEv) : PEv := fun ρ Q W => p ρ (fun sv r => match sv with
  | .sh (.int a) => q r (fun sw r2 => match sw with
    | .sh (.int b) => -4611686018427387904 ≤ a ∧ a < 4611686018427387904 ∧ -4611686018427387904 ≤ b ∧ b < 4611686018427387904 ∧ (b - a).toNat ≤ 16777216 ∧ Q (.ow (intsFrom a (b - a).toNat)) r2
    | _ => False) W
  | _ => False) W
theorem ve_listRg2 {X : Cx} {G : Gh} {a b : Expr} {pa pb : PEv} {p p2 pos pos2 : Pos} (hc : X.calm = true) (hg : Gl X "list") (hm : X.mg "list" = none) (hg2 : Gl X "range") (hm2 : X.mg "range" = none) (ha : VE X G a pa) (hb : VE X G b pb)
    (na : starEach [a, b] X.env = (false, eval a X.env) :: starEach [b] X.env := by rfl) (nb : starEach [b] X.env = (false, eval b X.env) :: starEach [] X.env := by rfl) (hp : (backTo pos2 (starEach [b] X.env)).any (·.1) = false := by rfl)
    (na2 : starEach [Expr.Call (.Name "range" p2) [a, b] [] pos2] X.env = (false, eval (.Call (.Name "range" p2) [a, b] [] pos2) X.env) :: starEach [] X.env := by rfl) :
    VE X G (.Call (.Name "list" p) [.Call (.Name "range" p2) [a, b] [] pos2] [] pos) (vListRg2 pa pb) := by
  refine ⟨fun ρ Q Q' W W' hQ hW z => ha.mono ρ _ _ _ _ (fun sv r z => ?_) hW z, fun We tk => (pe_listRg hc hg hm (prg_2 (pos := pos2) (p := p2) hg2 hm2 (ha.run We tk) (hb.run We tk) na nb hp) na2).weak fun σ H Q ⟨hs, ρ, O, st, z⟩ => ⟨hs, ρ, O, st, ha.mono ρ _ _ _ _ (fun sv r z v H' O' st' rv => ?_) (fun _ _ _ w => w) z⟩⟩
  · split at z
    · refine hb.mono _ _ _ _ _ (fun sw r2 z2 => ?_) hW z
      split at z2
      · exact ⟨z2.1, z2.2.1, z2.2.2.1, z2.2.2.2.1, z2.2.2.2.2.1, hQ _ _ z2.2.2.2.2.2⟩
      · exact z2.elim
    · exact z.elim
  · split at z
    · rename_i i
      have e := rep_int.mp (show Rep X.K O' H' (.int i) v from rv)
      subst e
      refine ⟨_, _, _, st', hb.mono _ _ _ _ _ (fun sw r2 z2 w H2 O2 st2 rw_ => ?_) (fun _ _ _ w => w) z⟩
      split at z2
      · rename_i j
        obtain ⟨z1, z2', z3, z4, z5, z6⟩ := z2
        have e := rep_int.mp (show Rep X.K O2 H2 (.int j) w from rw_)
        subst e
        refine ⟨i, j, rfl, rfl, ⟨by omega, by omega, by omega, by omega, by omega⟩, fun q hq => ?_⟩
        have e1 : rgV i j = ((List.range (j - i).toNat).map fun k : Nat => i + (k : Int)).map V.int := by
          unfold rgV
          rw [List.map_map]
          rfl
        have e2 : intsFrom i (j - i).toNat = ((List.range (j - i).toNat).map fun k : Nat => i + (k : Int)).map D.int := by
          unfold intsFrom
          rw [List.map_map]
          rfl
        rw [e1]
        rw [e2] at z6
        obtain ⟨st3, r3⟩ := st2.resLst (ds := ((List.range (j - i).toNat).map fun k : Nat => i + (k : Int)).map D.int) hq RepL.ints
        exact z6 _ _ _ st3 r3
      · exact z2.elim
    · exact z.elim
theorem vListRg2_K {p q : PEv} {ρ : Env} {Q : QV} {W : WxV} : vListRg2 p q ρ Q W = p ρ (fun sv r => match sv with
  | .sh (.int a) => q r (fun sw r2 => match sw with
    | .sh (.int b) => -4611686018427387904 ≤ a ∧ a < 4611686018427387904 ∧ -4611686018427387904 ≤ b ∧ b < 4611686018427387904 ∧ (b - a).toNat ≤ 16777216 ∧ Q (.ow (intsFrom a (b - a).toNat)) r2
    | _ => False) W
  | _ => False) W := rfl
end Vx

namespace Vx
open PySem PySem.Spec PyProof.Rows L2

/-! ### dicts whose keys are tuples of ints and texts -/
def lkD (kvs : List (List L2.Key × D)) (k : List L2.Key) : Option D := (kvs.find? fun p => decide (p.1 = k)).map (·.2)
def stD (kvs : List (List L2.Key × D)) (k : List L2.Key) (d : D) : List (List L2.Key × D) :=
  if (lkD kvs k).isSome = true then kvs.map (fun p => if p.1 = k then (p.1, d) else p) else kvs ++ [(k, d)]
def keyD : List D → Option (List L2.Key)
  | [] => some []
  | .int i :: r => (keyD r).map (Sum.inl i :: ·)
  | .str x :: r => (keyD r).map (Sum.inr x :: ·)
  | _ :: _ => none
section
variable {K : PySem.W.Frag} {O : Own} {H : Hp}
theorem keyD_rep : ∀ {ds : List D} {k : List L2.Key} {xs : List V}, keyD ds = some k → RepL K O H ds xs → xs = k.map kV
  | [], k, xs, e, r => by
    cases e
    exact repL_nil.mp r
  | d :: ds, k, xs, e, r => by
    obtain ⟨y, ys, rfl, r1, r2⟩ := repL_cons.mp r
    cases d with
    | int i =>
      obtain ⟨k2, e2, rfl⟩ := Option.map_eq_some_iff.mp (show (keyD ds).map _ = some k from e)
      rw [keyD_rep e2 r2, rep_int.mp r1]; rfl
    | str x =>
      obtain ⟨k2, e2, rfl⟩ := Option.map_eq_some_iff.mp (show (keyD ds).map _ = some k from e)
      rw [keyD_rep e2 r2, rep_str.mp r1]; rfl
    | non => cases e
    | bl b => cases e
    | tup es => cases e
    | lst es => cases e
    | ob a => cases e
    | rc _ _ _ => cases e
theorem lkD_pos {p : List L2.Key × D} {r : List (List L2.Key × D)} {k : List L2.Key} (e : p.1 = k) : lkD (p :: r) k = some p.2 := by simp [lkD, List.find?_cons, e]
theorem lkD_neg {p : List L2.Key × D} {r : List (List L2.Key × D)} {k : List L2.Key} (e : ¬ p.1 = k) : lkD (p :: r) k = lkD r k := by simp [lkD, List.find?_cons, e]
theorem KvR.some {k : List L2.Key} {d : D} : ∀ {kvs : List (List L2.Key × D)} {ys : List (List L2.Key × V)}, KvR K O H kvs ys → lkD kvs k = some d → ∃ v, valV ys k = some v ∧ Rep K O H d v
  | [], _, _, e => by cases e
  | p :: r, _, ⟨v, t, rfl, rv, q⟩, e => by
    by_cases z : p.1 = k
    · rw [lkD_pos z] at e
      cases e
      exact ⟨v, valV_pos (p := (p.1, v)) z, rv⟩
    · rw [lkD_neg z] at e
      rw [valV_neg (p := (p.1, v)) z]
      exact KvR.some q e
theorem KvR.none {k : List L2.Key} : ∀ {kvs : List (List L2.Key × D)} {ys : List (List L2.Key × V)}, KvR K O H kvs ys → lkD kvs k = none → valV ys k = none
  | [], _, q, _ => by
    rw [show _ = _ from q]; rfl
  | p :: r, _, ⟨v, t, rfl, rv, q⟩, e => by
    by_cases z : p.1 = k
    · rw [lkD_pos z] at e; cases e
    · rw [lkD_neg z] at e
      rw [valV_neg (p := (p.1, v)) z]
      exact KvR.none q e
theorem KvR.length : ∀ {kvs : List (List L2.Key × D)} {ys : List (List L2.Key × V)}, KvR K O H kvs ys → ys.length = kvs.length
  | [], _, q => by rw [show _ = _ from q]; rfl
  | p :: r, _, ⟨v, t, rfl, rv, q⟩ => by rw [List.length_cons, List.length_cons, KvR.length q]
theorem KvR.app {d : D} {v : V} {k : List L2.Key} (rv : Rep K O H d v) : ∀ {kvs : List (List L2.Key × D)} {ys : List (List L2.Key × V)}, KvR K O H kvs ys → KvR K O H (kvs ++ [(k, d)]) (ys ++ [(k, v)])
  | [], _, q => by
    rw [show _ = _ from q]
    exact ⟨v, [], rfl, rv, rfl⟩
  | p :: r, _, ⟨u, t, rfl, ru, q⟩ => ⟨u, t ++ [(k, v)], rfl, ru, KvR.app rv q⟩
theorem KvR.repl {d : D} {v : V} {k : List L2.Key} (rv : Rep K O H d v) : ∀ {kvs : List (List L2.Key × D)} {ys : List (List L2.Key × V)}, KvR K O H kvs ys →
    KvR K O H (kvs.map fun p => if p.1 = k then (p.1, d) else p) (ys.map fun p => if p.1 = k then (p.1, v) else p)
  | [], _, q => by rw [show _ = _ from q]; rfl
  | p :: r, _, ⟨u, t, rfl, ru, q⟩ => by
    rw [List.map_cons, List.map_cons]
    by_cases z : p.1 = k
    · rw [if_pos z, if_pos (show (p.1, u).1 = k from z)]
      exact ⟨v, _, rfl, rv, KvR.repl rv q⟩
    · rw [if_neg z, if_neg (show ¬ (p.1, u).1 = k from z)]
      exact ⟨u, _, rfl, ru, KvR.repl rv q⟩
theorem KvR.put {d : D} {v : V} {k : List L2.Key} {kvs : List (List L2.Key × D)} {ys : List (List L2.Key × V)} (q : KvR K O H kvs ys) (rv : Rep K O H d v) : KvR K O H (stD kvs k d) (L2.putK ys k v) := by
  unfold stD L2.putK
  rw [valV_any k ys]
  cases e : lkD kvs k with
  | none =>
    rw [q.none e, if_neg (by simp), if_neg (by simp)]
    exact q.app rv
  | some d0 =>
    obtain ⟨v0, e2, _⟩ := q.some e
    rw [e2, if_pos (show (Option.some d0).isSome = true from rfl), if_pos (show (Option.some v0).isSome = true from rfl)]
    exact q.repl rv
end
/-- a key that is made where it stands -/
abbrev PKy := Env → (List D → Env → Prop) → WxV → Prop
def KyMono (p : PKy) : Prop := ∀ (ρ : Env) (k k' : List D → Env → Prop) (W W' : WxV), (∀ a r, k a r → k' a r) → (∀ c y r, W c y r → W' c y r) → p ρ k W → p ρ k' W'
def TKy (G : Gh) (K : PySem.W.Frag) (p : PKy) (We : Hd → WxV) : TE := fun σ H Q => ∃ hs ρ O, StR G K hs σ H ρ O ∧
  p ρ (fun ds r => ∀ xs H' O', StR G K hs σ H' r O' → RepL K O' H' ds xs → ∀ b, H' b = none → Q (.ref b) (upd H' b (.tup xs))) (We hs)
structure VKy (X : Cx) (G : Gh) (e : Expr) (p : PKy) : Prop where
  mono : KyMono p
  run : ∀ We, Tk X G We → PE X e (TKy G X.K p We)
def kyTup (ps : List PEv) : PKy := fun ρ k W => vVals ps ρ (fun ds r => ds.length ≤ 16777216 ∧ k ds r) W
theorem vky_tup {X : Cx} {G : Gh} {es : List Expr} {ps : List PEv} {j : Nat} {pos : Pos} (h : VL X G es ps) : VKy X G (.Tuple es j pos) (kyTup ps) := by
  refine ⟨fun ρ k k' W W' hk hW z => h.mono ρ _ _ W W' (fun a r q => ⟨q.1, hk _ _ q.2⟩) hW z, fun We tk => (pe_tup (h.run We tk)).weak fun σ H Q ⟨hs, ρ, O, st, q⟩ => ?_⟩
  exact ⟨hs, ρ, O, st, h.mono ρ _ _ _ _ (fun ds r q xs H1 O1 st1 r1 => ⟨lineN (by rw [r1.length]; exact q.1), fun b hb => q.2 xs H1 O1 st1 r1 b hb⟩) (fun _ _ _ w => w) q⟩
/-- {} -/
def vDNew : PEv := fun ρ Q _ => ∀ a, Q (.dc a []) ρ
theorem ve_dnew {X : Cx} {G : Gh} {pos : Pos} : VE X G (.Dict [] [] pos) vDNew := by
  refine ⟨fun ρ Q Q' W W' hQ hW z a => hQ _ _ (z a), fun We tk => pe_dnewT.weak fun σ H Q ⟨hs, ρ, O, st, z⟩ p hp => ?_⟩
  obtain ⟨st2, s⟩ := st.newOwn (o := .dT []) hp
  exact z p _ _ _ st2 ⟨rfl, .inr rfl, st.fresh0 hp, [], upd_same, rfl⟩
/-- the dict of a slot -/
def vDc (i : Nat) (ρ : Env) (k : Addr → List (List L2.Key × D) → Prop) : Prop := vRd i ρ fun sv => match sv with
  | .dc a kvs => k a kvs
  | _ => False
theorem vDc_mono {i : Nat} {ρ : Env} {k k' : Addr → List (List L2.Key × D) → Prop} (hk : ∀ a kvs, k a kvs → k' a kvs) (z : vDc i ρ k) : vDc i ρ k' := vRd_mono (fun sv z => by
  cases sv with
  | dc a kvs => exact hk a kvs z
  | sh d => exact z.elim
  | ow d => exact z.elim
  | mu d => exact z.elim
  | bo d => exact z.elim) z
theorem vDc_some {i : Nat} {ρ : Env} {k : Addr → List (List L2.Key × D) → Prop} (z : vDc i ρ k) : ∃ a kvs, ρ[i]? = some (some (.dc a kvs)) ∧ k a kvs := by
  obtain ⟨sv, e, z⟩ := vRd_some z
  cases sv with
  | dc a kvs => exact ⟨a, kvs, e, z⟩
  | sh d => exact z.elim
  | ow d => exact z.elim
  | mu d => exact z.elim
  | bo d => exact z.elim
section
variable {X : Cx} {G : Gh}
theorem dc_at {hs : Hd} {σ : L2.St} {H : Hp} {ρ : Env} {O : Own} {i : Nat} {a : Addr} {kvs : List (List L2.Key × D)} (st : StR G X.K hs σ H ρ O) (e : ρ[i]? = some (some (.dc a kvs))) :
    σ[i]? = some (some (.ref a)) ∧ ∃ ys, H a = some (.dT ys) ∧ KvR X.K O H kvs ys := by
  obtain ⟨v, e1, rfl, _, _, ys, h, r⟩ := st.slot i _ e
  exact ⟨e1, ys, h, r⟩
/-- a key as it stands, wherever it was made -/
theorem key_sq {pins : List (Addr × Obj)} {σ : L2.St} {H : Hp} {s : Shared} {b : Addr} {ks : List L2.Key} (I : Inv X pins σ H s) (h : SqT X.K H b (ks.map kV)) : (tupleKind (mixKind X.prog X.w)).is s.heap ks b := by
  rcases h with h | ⟨o, its, n, lk, hc, hd, _, vs⟩
  · obtain ⟨_, its, r, o, h1, h2, n, h3⟩ := (show ObjOk X.prog X.w H s.heap b (.tup (ks.map kV)) from rd_of I.hok h)
    have r' := items_are (P := X.prog) (w := X.w) r
    exact ⟨o, its.toArray, n, h1, h2, h3, by simpa using r'⟩
  · exact ⟨o, its, n, I.kIn b o lk, hc, hd, items_are vs⟩
/-- d.get(k) of a slot's dict -/
def vDGet1 (i : Nat) (pk : PKy) : PEv := fun ρ Q W => vDc i ρ fun _ _ => pk ρ (fun ds r => vDc i r fun _ kvs => ∃ k, keyD ds = some k ∧ Q (.sh ((lkD kvs k).getD .non)) r) W
theorem vDGet1_mono {i : Nat} {pk : PKy} (hk : KyMono pk) : EMono (vDGet1 i pk) := fun ρ Q Q' W W' hQ hW z => vDc_mono (fun _ _ z => hk ρ _ _ W W' (fun ds r z => vDc_mono (fun _ _ ⟨k, e, z⟩ => ⟨k, e, hQ _ _ z⟩) z) hW z) z
theorem getD_rep {K : PySem.W.Frag} {O : Own} {H : Hp} {kvs : List (List L2.Key × D)} {ys : List (List L2.Key × V)} {d : D} {v : V} (k : List L2.Key) (q : KvR K O H kvs ys) (r : Rep K O H d v) : Rep K O H ((lkD kvs k).getD d) ((valV ys k).getD v) := by
  cases e : lkD kvs k with
  | none => rw [q.none e]; exact r
  | some d0 =>
    obtain ⟨v0, e2, r0⟩ := q.some e
    rw [e2]; exact r0
theorem ve_dget1 {e : Expr} {o : Expr} {pk : PKy} {i : Nat} {apos cpos : Pos} (hu : X.A.units + 64 < cLine) (ho : PE X o (tVar i)) (hk : VKy X G e pk) (m : M1 X o "get" apos e cpos) :
    VE X G (.Call (.Attribute o "get" apos) [e] [] cpos) (vDGet1 i pk) := by
  refine ⟨vDGet1_mono hk.mono, fun We tk => (pe_dget1 (by omega) ho (hk.run We tk) m).weak fun σ H Q ⟨hs, ρ, O, st, z⟩ => ?_⟩
  obtain ⟨a, kvs, e0, z⟩ := vDc_some z
  obtain ⟨e1, ys, hy, _⟩ := dc_at st e0
  refine ⟨.ref a, e1, a, rfl, .inr ⟨ys, .inl hy⟩, hs, ρ, O, st, hk.mono ρ _ _ _ _ (fun ds r z xs H1 O1 st1 rx b hb => ?_) (fun _ _ _ w => w) z⟩
  obtain ⟨a2, kvs2, e2, k, ek, z⟩ := vDc_some z
  obtain ⟨e3, zs, hz, q⟩ := dc_at st1 e2
  rw [e1] at e3
  cases e3
  obtain ⟨st2, s⟩ := st1.new (o := .tup xs) hb
  obtain ⟨_, ws, hw, q2⟩ := dc_at st2 e2
  refine ⟨valV ws k, DGet.t hw (by rw [upd_same, keyD_rep ek rx]), ?_⟩
  exact z _ _ O1 st2 (getD_rep k q2 (rep_non.mpr rfl))
/-- d.get(k, x) -/
def vDGet2 (i : Nat) (pk : PKy) (px : PEv) : PEv := fun ρ Q W => vDc i ρ fun _ _ => pk ρ (fun ds r => px r (fun sv r2 => vDc i r2 fun _ kvs => ∃ k, keyD ds = some k ∧ Q (.sh ((lkD kvs k).getD sv.fz)) r2) W) W
theorem vDGet2_mono {i : Nat} {pk : PKy} {px : PEv} (hk : KyMono pk) (hx : EMono px) : EMono (vDGet2 i pk px) := fun ρ Q Q' W W' hQ hW z => vDc_mono (fun _ _ z => hk ρ _ _ W W' (fun ds r z => hx r _ _ W W' (fun sv r2 z => vDc_mono (fun _ _ ⟨k, e, z⟩ => ⟨k, e, hQ _ _ z⟩) z) hW z) hW z) z
theorem ve_dget2 {e f : Expr} {o : Expr} {pk : PKy} {px : PEv} {i : Nat} {apos cpos : Pos} (hu : X.A.units + 64 < cLine) (ho : PE X o (tVar i)) (hk : VKy X G e pk) (hx : VE X G f px) (m : M2 X o "get" apos e f cpos) :
    VE X G (.Call (.Attribute o "get" apos) [e, f] [] cpos) (vDGet2 i pk px) := by
  refine ⟨vDGet2_mono hk.mono hx.mono, fun We tk => ⟨fun pins s σ H Q I ⟨hs, ρ, O, st, z⟩ => ?_⟩⟩
  obtain ⟨a, kvs, e0, z⟩ := vDc_some z
  refine wpAny_Call_method m.base m.few m.line PySem.F.plainAttrs_dict PySem.F.slot_dict_get PySem.F.type_dict_get (thn (ho.run pins s σ H (fun x H1 => x = .ref a ∧ H1 = H) I ⟨.ref a, (dc_at st e0).1, rfl, rfl⟩) fun u s1 ⟨x, H1, I1, rx, ex, eh⟩ => ?_)
  subst ex eh
  obtain rfl : u = Value.ref a := rx
  obtain ⟨e1, ys, hy, _⟩ := dc_at st e0
  have dd := isD_at I1 (.inr ⟨ys, .inl hy⟩)
  refine ⟨dd.1, dd.2.1, ?_⟩
  rw [m.trees]
  let R : VK := fun y H2 => ∃ b ds xs r O2, y = .ref b ∧ StR G X.K (HdI.val (.tup ds) (.ref b) :: hs) σ H2 r O2 ∧ RepL X.K O2 H2 ds xs ∧ px r (fun sv r2 => vDc i r2 fun _ kvs => ∃ k, keyD ds = some k ∧ ∀ v H' O', StR G X.K hs σ H' r2 O' → ResR G X.K hs σ r2 O' H' (.sh ((lkD kvs k).getD sv.fz)) v → Q v H') (We hs)
  have key := (hk.run We tk).run pins s1 σ H1 R I1 ⟨hs, ρ, O, st, hk.mono ρ _ _ _ _ (fun ds r z xs H2 O2 st2 r2 b hb => by
    obtain ⟨st3, r3⟩ := st2.resTup hb r2
    exact ⟨b, ds, xs, r, O2, rfl, st3.hold r3, RepL.stp (st2.new hb).2 _ _ r2, z⟩) (fun _ _ _ w => w) z⟩
  refine Calls.callWith_builtin rfl (Calls.evalArgs_plain (Calls.spliced_cons (thn key fun kv s2 ⟨y, H2, I2, ry, hR⟩ => ?_)))
  obtain ⟨b, ds, xs, r, O2, rfl, st2, rds, z⟩ := hR
  obtain rfl : kv = Value.ref b := ry
  let R2 : VK := fun y H3 => ∃ d r2 O3 kvs k, Rep X.K O3 H3 d y ∧ StR G X.K (HdI.val (.tup ds) (.ref b) :: hs) σ H3 r2 O3 ∧ r2[i]? = some (some (.dc a kvs)) ∧ keyD ds = some k ∧ ∀ v H' O', StR G X.K hs σ H' r2 O' → ResR G X.K hs σ r2 O' H' (.sh ((lkD kvs k).getD d)) v → Q v H'
  have key2 := (hx.run We tk).run pins s2 σ H2 R2 I2 ⟨HdI.val (.tup ds) (.ref b) :: hs, r, O2, st2, hx.mono r _ _ _ _ (fun sv r2 z v H3 O3 st3 rv => by
    obtain ⟨O4, st4, _, rv4⟩ := ResR.freeze st3 rv
    obtain ⟨a2, kvs2, e2, k, ek, z⟩ := vDc_some z
    have := (dc_at st4 e2).1
    rw [e1] at this
    cases this
    exact ⟨sv.fz, r2, O4, kvs2, k, rv4, st4, e2, ek, z⟩) (tk.up _ _ fun p hp => List.mem_cons_of_mem _ hp) z⟩
  refine Calls.spliced_cons (thn key2 fun fv s3 ⟨y, H3, I3, ry, hR⟩ => Calls.spliced_nil ?_)
  obtain ⟨d, r2, O3, kvs2, k, rd, st3, e2, ek, z⟩ := hR
  obtain ⟨_, zs, hz, q⟩ := dc_at st3 e2
  obtain ⟨c, ws, ec, tk2, rw2⟩ := rep_tup.mp (st3.held _ _ List.mem_cons_self)
  cases ec
  obtain rfl := keyD_rep ek rw2
  obtain ⟨hz1, hd, ps, rel, dh⟩ := dt_of I3.hok hz
  refine call_meetsIn PySem.F.slot_dict_get dh.typeIs PySem.F.entry_dict_get (PySem.F.args_dict_get_3 _ _ _) (meetsH_dict_get_default (tupleKind (mixKind X.prog X.w)) a b hd fv) ⟨tupleKind_room_in1 (show X.A.units + 1 < cLine by omega), k, ps, key_sq I3 tk2.sq, dh, ?_⟩
  have rr := rel.val k
  refine ⟨(valV zs k).getD y, H3, I3.tok _, rr.getD ry, z _ H3 O3 (st3.fewer fun p hp => List.mem_cons_of_mem _ hp) (getD_rep k q rd)⟩
/-- d[k] = e -/
def vsDSet (i : Nat) (pk : PKy) (pe : PEv) : PSv := fun ρ D => pe ρ (fun sv r1 => vDc i r1 fun _ _ => pk r1 (fun ds r2 => vDc i r2 fun a kvs => ∃ k, keyD ds = some k ∧ dcs r2 = 1 ∧ kvs.length < 16777216 ∧ D.nx (r2.set i (some (.dc a (stD kvs k sv.fz))))) D.ex) D.ex
theorem vsDSet_mono {i : Nat} {pk : PKy} {pe : PEv} (hk : KyMono pk) (he : EMono pe) : SMono (vsDSet i pk pe) := fun ρ D D' hl z => he ρ _ _ _ _ (fun sv r1 z => vDc_mono (fun _ _ z => hk r1 _ _ _ _ (fun ds r2 z => vDc_mono (fun _ _ ⟨k, e, o, l, z⟩ => ⟨k, e, o, l, hl.nx _ z⟩) z) hl.ex z) z) hl.ex z
theorem vs_dset {pk : PKy} {pe : PEv} {i : Nat} {ox ix val : Expr} {p2 pos : Pos} (hu : X.A.units + 64 < cLine) (hv : VE X G val pe) (ho : PE X ox (tVar i)) (hi : VKy X G ix pk)
    (hs : swapsWith val (some (.Subscript ox ix p2)) pos.line X.env = pure false := by rfl) : VS X G (.Assign [.Subscript ox ix p2] val pos) (vsDSet i pk pe) := by
  refine ⟨vsDSet_mono hi.mono hv.mono, fun We tk => ?_⟩
  refine (ps_dput (show X.A.units + 1 < cLine by omega) ho (hi.run We tk) (hv.run We tk) hs).weak fun D σ H ⟨hs0, ρ, O, st, z⟩ => ?_
  refine ⟨hs0, ρ, O, st, hv.mono ρ _ _ _ _ (fun sv r z v H1 O1 st1 rv => ?_) (fun _ _ _ w => w) z⟩
  obtain ⟨O2, st2, _, rv2⟩ := ResR.freeze st1 rv
  obtain ⟨a, kvs, e0, z⟩ := vDc_some z
  obtain ⟨e1, ys, hy, _⟩ := dc_at st2 e0
  refine ⟨.ref a, e1, HdI.val sv.fz v :: hs0, r, O2, st2.hold rv2, hi.mono r _ _ _ _ (fun ds r2 z xs H3 O3 st3 rx b hb => ?_) (tk.up _ _ fun p hp => List.mem_cons_of_mem _ hp) z⟩
  obtain ⟨a2, kvs2, e2, k, ek, one, hl, z⟩ := vDc_some z
  have e3 := (dc_at st3 e2).1
  rw [e1] at e3
  cases e3
  obtain ⟨st4, s4⟩ := st3.new (o := .tup xs) hb
  obtain ⟨_, ws, hw, q4⟩ := dc_at st4 e2
  have rv4 := st4.held sv.fz v List.mem_cons_self
  obtain ⟨st5, _⟩ := st4.writeD e2 one (q4.put (k := k) rv4)
  exact ⟨a, _, rfl, DPut.t hw (by rw [upd_same, keyD_rep ek rx]) (lineL (by rw [q4.length]; exact hl)), z σ _ O3 (st5.fewer fun p hp => List.mem_cons_of_mem _ hp)⟩
end
end Vx

namespace Vx
open PySem PySem.Spec PyProof.Rows L2
/-! ### dicts: how they are evaluated -/
def dcK : SV → (Addr → List (List L2.Key × D) → Prop) → Prop
  | .dc a kvs, k => k a kvs
  | _, _ => False
theorem dcK_dc {a : Addr} {kvs : List (List L2.Key × D)} {k : Addr → List (List L2.Key × D) → Prop} : dcK (.dc a kvs) k = k a kvs := rfl
section
variable {ρ r : Env} {Q : QV} {W : WxV} {E : VEnds} {p : PEv} {i : Nat} {pk : PKy} {ps : List PEv} {kd : List D → Env → Prop}
theorem vDc_K {k : Addr → List (List L2.Key × D) → Prop} : vDc i ρ k = optK (slotOf ρ i) fun sv => dcK sv k := by
  unfold vDc vRd
  cases slotOf ρ i with
  | none => rfl
  | some sv => cases sv <;> rfl
theorem keyE_K {o : Option (List L2.Key)} {P : List L2.Key → Prop} : (∃ k, o = some k ∧ P k) = optK o P := propext ⟨fun ⟨k, e, z⟩ => by subst e; exact z, fun z => by
  cases o with
  | none => exact z.elim
  | some k => exact ⟨k, rfl, z⟩⟩
theorem keyK_is {i : Int} {x : Str} {P : List L2.Key → Prop} : optK (keyD [.int i, .str x]) P = P [Sum.inl i, Sum.inr x] := rfl
theorem kyTup_K : kyTup ps ρ kd W = vVals ps ρ (fun ds r => ds.length ≤ 16777216 ∧ kd ds r) W := rfl
theorem vDNew_K : vDNew ρ Q W = ∀ a, Q (.dc a []) ρ := rfl
theorem vDGet1_K : vDGet1 i pk ρ Q W = optK (slotOf ρ i) fun sv => dcK sv fun _ _ => pk ρ (fun ds r => optK (slotOf r i) fun sv => dcK sv fun _ kvs => optK (keyD ds) fun k => Q (.sh ((lkD kvs k).getD .non)) r) W := by
  unfold vDGet1
  simp only [vDc_K, keyE_K]
theorem vDGet2_K : vDGet2 i pk p ρ Q W = optK (slotOf ρ i) fun sv => dcK sv fun _ _ => pk ρ (fun ds r => p r (fun sv r2 => optK (slotOf r2 i) fun sv2 => dcK sv2 fun _ kvs => optK (keyD ds) fun k => fzK sv fun d => Q (.sh ((lkD kvs k).getD d)) r2) W) W := by
  unfold vDGet2
  simp only [vDc_K, keyE_K]
  rfl
theorem vsDSet_K : vsDSet i pk p ρ E = p ρ (fun sv r1 => optK (slotOf r1 i) fun sv1 => dcK sv1 fun _ _ => pk r1 (fun ds r2 => optK (slotOf r2 i) fun sv2 => dcK sv2 fun a kvs => optK (keyD ds) fun k => dcs r2 = 1 ∧ kvs.length < 16777216 ∧ fzK sv fun d => setK r2 i (some (.dc a (stD kvs k d))) E.nx) E.ex) E.ex := by
  unfold vsDSet
  simp only [vDc_K, keyE_K]
  rfl
theorem dcs_sh {d : D} : dcs (some (.sh d) :: r) = dcs r := rfl
theorem dcs_ow {ds : List D} : dcs (some (.ow ds) :: r) = dcs r := rfl
theorem dcs_mu {ds : List D} : dcs (some (.mu ds) :: r) = dcs r := rfl
theorem dcs_bo {ds : List D} : dcs (some (.bo ds) :: r) = dcs r := rfl
theorem dcs_no : dcs (none :: r) = dcs r := rfl
theorem dcs_dc {a : Addr} {kvs : List (List L2.Key × D)} : dcs (some (.dc a kvs) :: r) = dcs r + 1 := rfl
theorem dcs_nil : dcs [] = 0 := rfl
end
/-! ### what a table holds -/
theorem lkD_st (kvs : List (List L2.Key × D)) (k j : List L2.Key) (d : D) : lkD (stD kvs k d) j = if j = k then some d else lkD kvs j := by
  unfold stD
  cases e : lkD kvs k with
  | none =>
    rw [if_neg (by simp)]
    induction kvs with
    | nil =>
      by_cases z : k = j
      · rw [if_pos z.symm]; exact lkD_pos (p := (k, d)) z
      · rw [if_neg (fun q => z q.symm)]; exact lkD_neg (p := (k, d)) z
    | cons p r ih =>
      rw [List.cons_append]
      have hk : ¬ p.1 = k := fun z => by rw [lkD_pos z] at e; cases e
      rw [lkD_neg hk] at e
      have ih := ih e
      by_cases z : p.1 = j
      · rw [lkD_pos z, lkD_pos z, if_neg (fun q => hk (z.trans q))]
      · rw [lkD_neg z, lkD_neg z, ih]
  | some d0 =>
    rw [if_pos (show (Option.some d0).isSome = true from rfl)]
    have key : ∀ l : List (List L2.Key × D), (lkD l k).isSome = true → lkD (l.map fun p => if p.1 = k then (p.1, d) else p) j = if j = k then some d else lkD l j := by
      intro l
      have gen : ∀ l : List (List L2.Key × D), lkD (l.map fun p => if p.1 = k then (p.1, d) else p) j = if j = k then (lkD l k).map (fun _ => d) else lkD l j := by
        intro l
        induction l with
        | nil => by_cases z : j = k <;> simp [z, lkD]
        | cons p r ih =>
          rw [List.map_cons]
          by_cases h : p.1 = k
          · rw [if_pos h]
            by_cases z : p.1 = j
            · rw [lkD_pos (p := (p.1, d)) z, lkD_pos h, if_pos (z.symm.trans h)]; rfl
            · rw [lkD_neg (p := (p.1, d)) z, lkD_neg z, ih, if_neg (fun q => z (h.trans q.symm)), if_neg (fun q => z (h.trans q.symm))]
          · rw [if_neg h]
            by_cases z : p.1 = j
            · rw [lkD_pos (p := p) z, lkD_pos z, if_neg (fun q => h (z.trans q)), ]
            · rw [lkD_neg (p := p) z, lkD_neg z, ih, lkD_neg h]
      intro hs
      rw [gen l]
      by_cases z : j = k
      · rw [if_pos z, if_pos z]
        obtain ⟨x, hx⟩ := Option.isSome_iff_exists.mp hs
        rw [hx]; rfl
      · rw [if_neg z, if_neg z]
    exact key kvs (by rw [e]; rfl)
theorem stD_len (kvs : List (List L2.Key × D)) (k : List L2.Key) (d : D) : (stD kvs k d).length ≤ kvs.length + 1 := by
  unfold stD
  split
  · rw [List.length_map]; omega
  · rw [List.length_append]; exact Nat.le_refl _
end Vx

namespace Vx
open PySem PySem.Spec PyProof.Rows L2
/-! ### for x in an own list, with a suite that leaves its name alone: the list is put aside and is back behind the loop -/
def asideK (i : Nat) (a : Addr) (all : List D) (ρ : Env) (k : Env → Prop) : Prop := slotOf ρ i = some (.sh (.ob a)) ∧ k (ρ.set i (some (.ow all)))
def forB (i : Nat) (a : Addr) (all : List D) (g : PGv) (body : PSv) : List D → Env → VEnds → Prop
  | [], ρ, D => asideK i a all ρ D.nx
  | d :: ds, ρ, D => g (.sh d) ρ fun r => body r { D with nx := fun r => forB i a all g body ds r D, ct := fun r => forB i a all g body ds r D, bk := fun r => asideK i a all r D.nx }
def vsForB (i : Nat) (g : PGv) (body : PSv) : PSv := fun ρ D => vRd i ρ fun sv => match sv with
  | .ow ds => ∀ a, forB i a ds g body ds (ρ.set i (some (.sh (.ob a)))) D
  | _ => False
theorem asideK_mono {i : Nat} {a : Addr} {all : List D} {ρ : Env} {k k' : Env → Prop} (hk : ∀ r, k r → k' r) (z : asideK i a all ρ k) : asideK i a all ρ k' := ⟨z.1, hk _ z.2⟩
theorem forB_mono {i : Nat} {a : Addr} {all : List D} {g : PGv} {body : PSv} (hg : GMono g) (hb : SMono body) : ∀ (ds : List D) (ρ : Env) (D D' : VEnds), D.le D' → forB i a all g body ds ρ D → forB i a all g body ds ρ D'
  | [], ρ, D, D', hl, z => asideK_mono hl.nx z
  | d :: ds, ρ, D, D', hl, z => hg _ _ _ _ (fun r z => hb r { D with nx := fun r => forB i a all g body ds r D, ct := fun r => forB i a all g body ds r D, bk := fun r => asideK i a all r D.nx } { D' with nx := fun r => forB i a all g body ds r D', ct := fun r => forB i a all g body ds r D', bk := fun r => asideK i a all r D'.nx }
      ⟨fun r z => forB_mono hg hb ds r D D' hl z, hl.rt, fun r z => asideK_mono hl.nx z, fun r z => forB_mono hg hb ds r D D' hl z, hl.ex⟩ z) z
theorem vsForB_mono {i : Nat} {g : PGv} {body : PSv} (hg : GMono g) (hb : SMono body) : SMono (vsForB i g body) := fun ρ D D' hl z => vRd_mono (fun sv z => by
  cases sv with
  | ow ds => exact fun a => forB_mono hg hb ds _ D D' hl (z a)
  | sh d => exact z
  | mu ds => exact z
  | bo ds => exact z
  | dc a kvs => exact z) z
section
variable {X : Cx} {G : Gh}
theorem StR.aside {K : PySem.W.Frag} {hs : Hd} {σ : L2.St} {H : Hp} {ρ : Env} {O : Own} {i : Nat} {all : List D} {a : Addr} {xs : List V} {hs1 : Hd} (st : StR G K hs1 σ H ρ O) (hp : HdI.own a xs ∈ hs1) (hv : ∀ p, p ∈ zipV all xs → p ∈ hs1) (hl : xs.length = all.length) (sub : ∀ p, p ∈ hs → p ∈ hs1)
    (hn : ∀ ys, HdI.own a ys ∉ hs) (e : slotOf ρ i = some (.sh (.ob a))) : StR G K hs σ H (ρ.set i (some (.ow all))) O := by
  obtain ⟨v, e1, r⟩ := st.slot i _ (slotOf_some e)
  have ev : v = .ref a := rep_ob.mp (show Rep K O H (.ob a) v from r)
  subst ev
  obtain ⟨h1, h2, h3, h4⟩ := st.pins a xs hp
  have st1 := (st.fewer sub).set (i := i) (sv := .ow all) (v := .ref a) ⟨a, xs, rfl, h1, h2, h3, st.heldL hl hv, h4, hn⟩
  have es : σ.set i (some (V.ref a)) = σ := by
    apply List.ext_getElem?
    intro j
    by_cases hj : j = i
    · subst hj
      rw [List.getElem?_set_self (List.getElem?_eq_some_iff.mp e1).1, e1]
    · rw [List.getElem?_set_ne (Ne.symm hj)]
  rwa [es] at st1
theorem vs_forB {i : Nat} {tg iter : Expr} {g : PGv} {is : List Nat} {body : List Stmt} {pb : PSv} {pos : Pos} (hc : X.calm = true) (hi : PE X iter (tVar i)) (hg : VG X G tg g is) (hb : VSs X G body pb)
    (hs : ∀ x, foldedSetIterable iter X.env x = pure x := by intro _; rfl) : VS X G (.For tg iter body [] pos) (vsForB i g pb) := by
  refine ⟨vsForB_mono hg.mono hb.mono, fun We tk => ?_⟩
  refine (ps_for tk.po hc (pi_seq hi) hg.run (hb.run We tk) hs).weak fun D σ H ⟨hs0, ρ, O, st, z⟩ => ?_
  obtain ⟨sv, hsv, z⟩ := vRd_some z
  cases sv with
  | sh d => exact z.elim
  | mu ds => exact z.elim
  | bo ds => exact z.elim
  | dc b kvs => exact z.elim
  | ow all =>
    obtain ⟨v, e1, st1, rr⟩ := st.take hsv
    have hn : ∀ b, v = .ref b → ∀ ys, HdI.own b ys ∉ hs0 := fun b ev => by
      obtain ⟨c, xs, ec, _, _, _, _, _, h⟩ := rr
      rw [ev] at ec; cases ec
      exact h
    obtain ⟨a, xs, rfl, rx, st2⟩ := st1.pin rr
    have st3 := (st2.put e1 (d := .ob a) (rep_ob.mpr rfl)).holdL rx
    rw [List.set_set] at st3
    generalize hhs : zipV all xs ++ HdI.own a xs :: hs0 = hs1 at st3
    have sub0 : ∀ p, p ∈ hs0 → p ∈ hs1 := fun p hp => by rw [← hhs]; exact List.mem_append_right _ (List.mem_cons_of_mem _ hp)
    have subz : ∀ p, p ∈ zipV all xs → p ∈ hs1 := fun p hp => by rw [← hhs]; exact List.mem_append_left _ hp
    have hown : HdI.own a xs ∈ hs1 := by rw [← hhs]; exact List.mem_append_right _ List.mem_cons_self
    have hl := rx.length
    have back : ∀ {σ : L2.St} {H : Hp} {ρ : Env} {O : Own} {k : Env → Prop}, StR G X.K hs1 σ H ρ O → asideK i a all ρ k → ∃ ρ', StR G X.K hs0 σ H ρ' O ∧ k ρ' := fun st z => ⟨_, st.aside hown subz hl sub0 (hn a rfl) z.1, z.2⟩
    have sq0 : SqL X.K H a xs := SqL.of (st2.pins a xs List.mem_cons_self).1
    refine ⟨_, e1, a, rfl, .inl ⟨⟨xs, sq0⟩, ?_⟩⟩
    refine ⟨fun k m σ H => ∃ ρ O, StR G X.K hs1 σ H ρ O ∧ k + m = all.length ∧ forB i a all g pb (all.drop k) ρ (dR G X.K hs0 D (We hs0)), ⟨all.length, _, O, st3, by omega, by rw [List.drop_zero]; exact z a⟩, ?_⟩
    rintro k m σ H ⟨ρ, O, st, hm, z⟩
    have sq : SqL X.K H a xs := SqL.of (st.pins a xs hown).1
    by_cases hk : k < all.length
    · right
      rw [List.drop_eq_getElem_cons hk] at z
      have hd : all[k]? = some all[k] := List.getElem?_eq_getElem hk
      obtain ⟨w, hw, rw_⟩ := (st.heldL hl subz).get hd
      refine ⟨⟨xs, w, sq, hw⟩, fun σ' H' => ∃ ρ O, StR G X.K hs1 σ' H' ρ O ∧ (k + 1) + (m - 1) = all.length ∧ forB i a all g pb (all.drop (k + 1)) ρ (dR G X.K hs0 D (We hs0)), fun σ' H' h => ⟨m - 1, by omega, h⟩, fun u H' hy => ?_⟩
      obtain ⟨rfl, hy⟩ := hy
      have e2 := hy xs sq
      rw [hw] at e2
      cases e2
      refine ⟨hs1, ρ, O, .sh all[k], st, rw_, hg.mono _ _ _ _ (fun r z σ2 O2 _ st2 => ?_) z⟩
      refine ⟨hs1, r, O2, st2, hb.mono r { dR G X.K hs0 D (We hs0) with nx := fun r => forB i a all g pb (all.drop (k + 1)) r (dR G X.K hs0 D (We hs0)), ct := fun r => forB i a all g pb (all.drop (k + 1)) r (dR G X.K hs0 D (We hs0)), bk := fun r => asideK i a all r (dR G X.K hs0 D (We hs0)).nx } _ ⟨fun r z σ' H' O' st' => ⟨r, O', st', by omega, z⟩, fun sv r z v σ' H' O' st' rv => z v σ' H' O' (st'.fewer sub0) (rv.fewer sub0), fun r z σ' H' O' st' => ?_, fun r z σ' H' O' st' => ⟨r, O', st', by omega, z⟩, fun c y r z => tk.up _ _ sub0 c y r z⟩ z⟩
      obtain ⟨r', st4, z'⟩ := back st' z
      exact z' σ' H' O' st4
    · left
      rw [List.drop_eq_nil_of_le (by omega)] at z
      obtain ⟨r', st4, z'⟩ := back st z
      exact ⟨⟨xs, sq, by omega⟩, z' σ H O st4⟩
end
/-- by an invariant -/
theorem forB_ind {i : Nat} {a : Addr} {all : List D} {g : PGv} {body : PSv} {D : VEnds} (I : List Vx.D → Env → Prop)
    (step : ∀ d ds r (N : Env → Prop), I (d :: ds) r → (∀ r', I ds r' → N r') → g (.sh d) r fun r => body r { D with nx := N, ct := N, bk := fun r => asideK i a all r D.nx })
    (done : ∀ r, I [] r → asideK i a all r D.nx) : ∀ ds r, I ds r → forB i a all g body ds r D
  | [], r, h => done r h
  | d :: ds, r, h => step d ds r _ h fun r' h' => forB_ind I step done ds r' h'
theorem vsForB_K {i : Nat} {g : PGv} {body : PSv} {ρ : Env} {E : VEnds} {ds : List D} (e : slotOf ρ i = some (.ow ds)) (h : ∀ a, forB i a ds g body ds (ρ.set i (some (.sh (.ob a)))) E) : vsForB i g body ρ E := by
  unfold vsForB vRd
  rw [e]
  exact h
end Vx

namespace Vx
open PySem PySem.Spec PyProof.Rows L2
/-! ### f(g(x), e, ..): a list just made is lent to be changed, beside plain data -/
theorem StR.callM {K : PySem.W.Frag} {G : Gh} {hs : Hd} {σ : L2.St} {H H' : Hp} {ρ out : Env} {O O' O2 : Own} {a : Addr} {mus : Nat → Option Addr} (st : StR G K hs σ H ρ O) {xs0 : List V} (hl0 : H a = some (.lst xs0)) (hO : O a) (h0 : G.H0 a = none)
    (hn : ∀ (j : Nat) (tv : SV), ρ[j]? = some (some tv) → tv.isOwn = true → σ[j]? ≠ some (some (V.ref a))) (hp : ∀ ys, HdI.own a ys ∉ hs) (only : ∀ i b, mus i = some b → b = a)
    (P : Post K O H mus out O' H') (s1 : ∀ b, O b → O2 b) (s2 : ∀ b, O2 b → O' b) (s3 : ∀ b, O2 b → O b ∨ H b = none) : StR G K hs σ H' ρ O2 := by
  have kp : ∀ b o, H b = some o → b ≠ a → H' b = some o := fun b o e n => P.keep b o e fun i hi => n (only i b hi)
  have s : Stq G O H O2 H' := ⟨⟨fun b o e n => kp b o e fun z => n (z ▸ hO), s3⟩, fun b o e n => kp b o e fun z => n (z ▸ .inl h0)⟩
  refine ⟨st.len, fun j tv ej => ?_, st.inj, fun d v hd => Rep.stp s.toStp _ _ (st.held d v hd), fun b ys hb => ?_, fun b h => s1 b (st.outer b h), st.mo, fun b o eb n => ?_, fun b h => P.alloc b (s2 b h), st.mus, st.alloc0⟩
  · obtain ⟨v, e1, q⟩ := st.slot j tv ej
    refine ⟨v, e1, q.stq s (fun ho b ys ev eb => ?_) fun b ys hO eb => ⟨kp b _ eb (fun z => by subst z; rw [hl0] at eb; cases eb), s1 b hO⟩⟩
    have hOb : O b := by
      cases tv with
      | sh d => cases ho
      | bo d => cases ho
      | dc b kvs => cases ho
      | ow cs => obtain ⟨c, zs, z, _, g3, _, _⟩ := q; rw [ev] at z; cases z; exact g3
      | mu cs => obtain ⟨c, zs, z, _, g3, _, _⟩ := q; rw [ev] at z; cases z; exact g3
    exact ⟨kp b _ eb fun z => hn j tv ej ho (by rw [e1, ev, z]), s1 b hOb⟩
  · obtain ⟨h1, h2, h3, h4⟩ := st.pins b ys hb
    exact ⟨kp b _ h1 fun z => hp ys (z ▸ hb), s1 b h2, h3, h4⟩
  · exact kp b o (st.keep b o eb n) fun z => by rw [z, h0] at eb; cases eb
def vCallO2 (f : PFn) (p : PEv) (ps : List PEv) : PEv := fun ρ Q W => p ρ (fun sv ρ1 => match sv with
  | .ow ds => vVals ps ρ1 (fun es ρ2 => f (.mu ds :: es.map .sh) (fun sv2 _ => Q sv2 ρ2) (fun c y _ => W c y ρ2)) W
  | _ => False) W
theorem vCallO2_mono {f : PFn} {p : PEv} {ps : List PEv} (hf : FMono f) (hp : EMono p) (hs : VMono ps) : EMono (vCallO2 f p ps) := fun ρ Q Q' W W' hQ hW z => hp ρ _ _ _ _ (fun sv r z => by
  cases sv with
  | ow ds => exact hs r _ _ _ _ (fun es r2 z => hf _ _ _ _ _ (fun sv2 out z => hQ _ _ z) (fun c y out z => hW _ _ _ z) z) hW z
  | _ => exact z.elim) hW z
section
variable {X : Cx} {G : Gh} {e : Expr} {es : List Expr} {pe : PEv} {ps : List PEv} {f : PFn} {k : Nat} {fa : Addr} {fd : FuncData} {pn : List Str} {x : Str} {p pos : Pos}
theorem args_shs {K : PySem.W.Frag} {O : Own} {H : Hp} {a : Addr} {ds : List D} {xs : List V} {es : List D} {vs : List V} (h1 : H a = some (.lst xs)) (h2 : O a) (r : RepL K O H ds xs) (rv : RepL K O H es vs) (al : ∀ b, O b → H b ≠ none) :
    ArgsR K O H (.mu ds :: es.map .sh) (.ref a :: vs) ∧ ∀ i b, musOf (.mu ds :: es.map .sh) (.ref a :: vs) i = some b → b = a := by
  have only : ∀ i b, musOf (.mu ds :: es.map .sh) (.ref a :: vs) i = some b → i = 0 ∧ b = a := fun i b e => by
    cases i with
    | zero => cases e; exact ⟨rfl, rfl⟩
    | succ i =>
      unfold musOf at e
      split at e
      · rename_i ds' b' g1 g2
        rw [List.getElem?_cons_succ, List.getElem?_map] at g1
        cases q : es[i]? with
        | none => rw [q] at g1; cases g1
        | some d => rw [q] at g1; cases g1
      · cases e
  refine ⟨⟨by rw [List.length_cons, List.length_cons, List.length_map, rv.length], fun i sv v e1 e2 => ?_, fun i j b e1 e2 => by rw [(only i b e1).1, (only j b e2).1], al⟩, fun i b e => (only i b e).2⟩
  cases i with
  | zero => cases e1; cases e2; exact ⟨a, xs, rfl, h1, h2, r⟩
  | succ i =>
    rw [List.getElem?_cons_succ, List.getElem?_map] at e1
    rw [List.getElem?_cons_succ] at e2
    cases q : es[i]? with
    | none => rw [q] at e1; cases e1
    | some d =>
      rw [q] at e1
      cases e1
      obtain ⟨w, q1, q2⟩ := rv.get q
      rw [e2] at q1
      cases q1
      exact q2
theorem ve_callO2 (F : FnV X.prog X.w X.K X.mg X.base k fa fd pn f) (gd : X.A.guards = some []) (hr : Room k X.A) (hg : Gl X x) (hm : X.mg x = some (.ref fa)) (hk : PySem.W.keepIn X.K (.ref fa) = true) (hb : Binds X.K fd pn []) (ha : VE X G e pe) (hv : VL X G es ps)
    (hdb : (x == ("__debug__" : Str)) = false := by decide) (he : starEach (e :: es) X.env = (false, eval e X.env) :: starEach es X.env := by rfl) (hpl : (backTo pos (starEach es X.env)).any (·.1) = false := by rfl) :
    VE X G (.Call (.Name x p) (e :: es) [] pos) (vCallO2 f pe ps) := by
  refine ⟨vCallO2_mono F.mono ha.mono hv.mono, fun We tk => ⟨fun pins s σ H Q I ⟨hs, ρ, O, st, z⟩ => wpAny_Call_Name_kw (ld_glob I hg hm ?_ hdb)⟩⟩
  refine PySem.W.callWith_K (h₀ := X.base) I.ok.mod.kin hk (thn ((pa_cons (ha.run We tk) (hv.run We tk) he).run pos pins s σ H (fun vs H1 => spV X.K pn.length f vs H1 Q (WE (WXof X G We) σ)) I ⟨hs, ρ, O, st, ?_⟩) fun us s1 ⟨vs, H1, I1, rel, q⟩ => ⟨I1.kIn, wp_ofG ?_⟩) he hpl
  · refine ha.mono ρ _ _ _ _ (fun sv r z v H1 O1 st1 rr => ?_) (fun _ _ _ w => w) z
    cases sv with
    | ow ds =>
      have h6 : ∀ b, v = .ref b → ∀ ys, HdI.own b ys ∉ hs := fun b ev => by
        obtain ⟨c, xs, ec, _, _, _, _, _, h⟩ := rr
        rw [ev] at ec; cases ec
        exact h
      obtain ⟨a, xs, rfl, rx, st2⟩ := st1.pin rr
      have st3 := st2.holdL rx
      have sub0 : ∀ p, p ∈ hs → p ∈ zipV ds xs ++ HdI.own a xs :: hs := fun p hp => List.mem_append_right _ (List.mem_cons_of_mem _ hp)
      refine ⟨zipV ds xs ++ HdI.own a xs :: hs, r, O1, st3, hv.mono r _ _ _ _ (fun es' r2 z vs H2 O2 st4 rv => ?_) (tk.up _ _ sub0) z⟩
      obtain ⟨h1, h2, h3, h5⟩ := st4.pins a xs (List.mem_append_right _ List.mem_cons_self)
      have rx4 := st4.heldL rx.length fun p hp => List.mem_append_left _ hp
      have st5 := st4.fewer sub0
      obtain ⟨hA, only⟩ := args_shs h1 h2 rx4 rv st5.alloc
      have hn6 := h6 a rfl
      refine ⟨by have := F.len _ _ _ z; rw [hA.len]; exact this, O2, _, hA, F.mono _ _ _ _ _ (fun sv out z v H' O' P rr => ?_) (fun c y out z d H' O' P py => ?_) z⟩
      · cases sv with
        | sh d =>
          have st6 := StR.callM st5 h1 h2 h3 h5 hn6 only P (O2 := O2) (fun _ h => h) P.more (fun _ h => .inl h)
          exact z v H' O2 st6 (Rep.stp ⟨fun _ _ e _ => e, fun a h => .inl (P.more a h)⟩ _ _ rr)
        | ow es =>
          obtain ⟨b, ys, rfl, g1, g2, g3, g4⟩ := rr
          have st6 := StR.callM st5 h1 h2 h3 h5 hn6 only P (O2 := fun c => O2 c ∨ c = b) (fun _ h => .inl h) (fun c h => h.elim (P.more c) fun e => e ▸ g2) (fun c h => h.elim .inl fun e => .inr (e ▸ g3))
          refine z (.ref b) H' _ st6 ⟨b, ys, rfl, g1, .inr rfl, st5.fresh0 g3, RepL.stp ⟨fun _ _ e _ => e, fun c h => .inl (h.elim (P.more c) fun e => e ▸ g2)⟩ _ _ g4, fun j tv ej oj => ?_, fun zs hz => by rw [(st5.pins b zs hz).1] at g3; cases g3⟩
          exact st5.own_ne g3 j tv ej oj
        | mu ds => cases rr
        | bo ds => cases rr
        | dc b kvs =>
          obtain ⟨rfl, g2, g3, ys, g1, g4⟩ := rr
          have st6 := StR.callM st5 h1 h2 h3 h5 hn6 only P (O2 := fun c => O2 c ∨ c = b) (fun _ h => .inl h) (fun c h => h.elim (P.more c) fun e => e ▸ g2) (fun c h => h.elim .inl fun e => .inr (e ▸ g3))
          exact z (.ref b) H' _ st6 ⟨rfl, .inr rfl, st5.fresh0 g3, ys, g1, KvR.stp ⟨fun _ _ e _ => e, fun c h => .inl (h.elim (P.more c) fun e => e ▸ g2)⟩ _ _ g4⟩
      · have st6 := StR.callM st5 h1 h2 h3 h5 hn6 only P (O2 := O2) (fun _ h => h) P.more (fun _ h => .inl h)
        refine ⟨hs, r2, O2, c, y, rfl, st6, ?_, z⟩
        cases y with
        | none => exact py
        | some fx =>
          obtain ⟨fn, dx⟩ := fx
          obtain ⟨b, v, g1, g2, g3⟩ := py
          exact ⟨b, v, g1, g2, Rep.stp ⟨fun _ _ e _ => e, fun a h => .inl (P.more a h)⟩ _ _ g3⟩
    | sh d => exact z.elim
    | mu ds => exact z.elim
    | bo ds => exact z.elim
    | dc b kvs => exact z.elim
  · have hl : us.length = pn.length := by rw [← rel.length]; exact F.ok.len _ _ _ _ q
    have b := hb s1 us I1.kIn (by rw [List.append_nil]; exact hl)
    rw [List.append_nil] at b
    exact runG (E := WE (WXof X G We)) F.ok gd hr b (passAt tk.tk σ) I1 rel q
end
theorem vCallO2_K {f : PFn} {p : PEv} {ps : List PEv} {ρ : Env} {Q : QV} {W : WxV} : vCallO2 f p ps ρ Q W = p ρ (fun sv ρ1 => match sv with
  | .ow ds => vVals ps ρ1 (fun es ρ2 => f (.mu ds :: es.map .sh) (fun sv2 _ => Q sv2 ρ2) (fun c y _ => W c y ρ2)) W
  | _ => False) W := rfl
end Vx

namespace Vx
open PySem PySem.Spec PyProof.Rows L2

/-! ### xs[:1] = [] -/
section
variable {P : Program} {w : World} {A : Around} {E : Value → Shared → Prop} {s : Shared}
theorem cut1_bounds {n : Nat} (hn : 1 ≤ n) : sliceBounds none (some (1 : Int)) none n = (0, 1, 1) := by
  simp only [sliceBounds, Option.getD_none]
  simp
  omega
theorem cut1_store {l b sl : Addr} {xs : Array Value} {n n2 : Nat} {v1 : Value} {Q : Unit → Shared → Prop} (e : s.heap.get? l = some { cls := .type "list", data := .seq xs n }) (e2 : s.heap.get? b = some { cls := .type "list", data := .seq #[] n2 })
    (hne : l ≠ b) (hs : s.heap.IsSliceOf sl .none v1 .none) (p1 : IsPart v1 (some 1)) (hc : 1 ≤ xs.size) (hz : xs.size ≤ sizeLine) (h : Q () { s with heap := s.heap.update l (Obj.mapSeq fun ys => ys.extract 0 0 ++ #[] ++ ys.extract 1 ys.size) }) :
    wpAny (model P w) A (setItem (.ref l) (.ref sl) (.ref b)) Q E s := by
  have hl : s.heap.IsList l xs := PySem.IsL.isList e
  have hb : s.heap.IsList b #[] := PySem.IsL.isList e2
  obtain ⟨os, ho1, ho2, ho3⟩ := id hs
  have hTs : s.TypeIs (.ref sl) "slice" := ⟨os, ho1, ho2⟩
  have hst : ¬ ((rawPart none == rawInt 0) = true) := Bool.false_ne_true
  have hsa : Builtin.List.listSameRef (.ref l) (.ref b) = false := by unfold Builtin.List.listSameRef; exact beq_eq_false_iff_ne.mpr hne
  have hz1 : ((fun ys : Array Value => ys.extract 0 0 ++ #[] ++ ys.extract 1 ys.size) xs).size ≤ sizeLine + 1 := by
    simp only [Array.size_append, Array.size_extract, Array.size_empty]; omega
  unfold setItem
  try with_reducible refine wpAny_holding ?_
  (first | refine wpAny_bind (wpAny_pure ?_) | skip); refine wpAny_bind (wpAny_sequenceKey hl.typeIs (by decide) ?_)
  refine wpAny_bind (wpAny_callSpecial?_slot (name := Str.ofString "__setitem__") hl.typeIs slot_list_setitem (wpAny_call_entry slot_list_setitem hl.typeIs entry_list_setitem ?_ (args_list_setitem _ _ _)))
  show wpAny _ _ (Builtin.List.listSubscript? (.ref sl) >>= _) _ _ s; refine wpAny_bind ?_
  unfold Builtin.List.listSubscript?; refine wpAny_bind (wpAny_specialOf hTs slice_no_index ?_)
  simp only [Option.isNone_none, if_true]; refine wpAny_pure ?_
  show wpAny _ _ (typeOf (.ref sl) >>= _) _ _ s; refine wpAny_bind (wpAny_typeOf hTs ?_)
  (first | rw [if_neg (by decide)] | refine PySem.W.KFB.if_not (by decide) ?_)
  rw [listSliceParts_eq]; refine wpAny_bind (wpAny_bind (wpAny_field ho1 ho3 (x := .none) rfl (wpAny_bind (wpAny_listPart .none ?_))))
  rw [if_neg hst]; refine wpAny_bind (wpAny_field ho1 ho3 (x := .none) rfl (wpAny_bind (wpAny_listPart .none ?_)))
  refine wpAny_bind (wpAny_field ho1 ho3 (x := v1) rfl (wpAny_bind (wpAny_listPart p1 (wpAny_pure ?_))))
  (first
    | simp only [hsa, Bool.false_eq_true, if_false]
    | refine PySem.W.KFB.if_not hsa ?_
    | (dsimp only; rw [if_neg (by rw [hsa]; exact Bool.false_ne_true)]))
  refine wpAny_bind (m := Builtin.List.listAllItems (.ref b) "must assign iterable to extended slice") ?_; unfold Builtin.List.listAllItems
  refine wpAny_bind (wpAny_typeOf hb.typeIs ?_)
  (first
    | refine PySem.W.KFB.if_so (by decide) ?_
    | rw [if_pos (by decide)]
    | simp only [beq_self_eq_true, Bool.true_or, if_true])
  unfold Builtin.List.listItems; refine wpAny_bind (wpAny_seqItems e2 rfl (wpAny_pure ?_))
  refine wpAny_bind (wpAny_bind (wpAny_seqItems e rfl (wpAny_pure ?_)))
  refine wpAny_bind (wpAny_of_eq ((sliceIndices_raw none (some (1 : Int)) none xs.size (by simp)).trans (congrArg (pure : Int × Int × Int → Sem (Int × Int × Int)) (cut1_bounds hc))) ?_)
  show wpAny _ _ (if ((1 : Int) == 1) = true then _ else _) _ _ s; rw [if_pos (by decide)]
  refine wpAny_bind (wpAny_rule ?_)
  have hlong : xs.size + (#[] : Array Value).size ≤ sizeLine := by simpa using hz
  (first
    | simp only [notLongL hlong, Bool.false_eq_true, if_false]
    | refine PySem.W.KFB.if_not (notLongL hlong) ?_)
  first | refine wpAny_bind (wpAny_pure ?_) | skip
  show wpAny _ _ (updateSeq l (fun ys => ys.extract 0 ((0 : Int)).toNat ++ #[] ++ ys.extract (max (0 : Int) (1 : Int)).toNat ys.size) >>= _) _ _ s
  refine wpAny_bind (wpAny_updateSeq (hz := hz) (_hz' := hz1) e rfl ?_); refine wpAny_bind (wpAny_letGo ?_)
  (first
    | exact wpAny_bind (wpAny_pure (wpAny_pure ⟨.none, rfl, wpAny_pure h⟩))
    | exact wpAny_pure ⟨.none, rfl, wpAny_pure h⟩)
end
section
variable {X : Cx} {G : Gh}
/-- xs[:1] = v -/
def gCut1 (to : TE) : TG := fun v σ H Q => to σ H fun o H1 => ∃ l b x xs, o = .ref l ∧ v = .ref b ∧ H1 l = some (.lst (x :: xs)) ∧ H1 b = some (.lst []) ∧ l ≠ b ∧ Q σ (upd H1 l (.lst xs))
theorem pg_cut1 {o : Expr} {to : TE} {p2 pos cpos : Pos} {j : Nat} (ho : PE X o to)
    (ha : ∀ v, assign (.Subscript o (.Slice none (some (.Constant (.int 1) j cpos)) none p2) pos) X.env v = (do
      let ov ← holding [v] (eval o X.env)
      let iv ← holding [v, ov] (eval (.Slice none (some (.Constant (.int 1) j cpos)) none p2) X.env)
      standAt pos
      holding [v, ov, iv] (setItem ov iv v)
      release [iv, v, ov] []) := by intro _; rfl) : PG X (.Subscript o (.Slice none (some (.Constant (.int 1) j cpos)) none p2) pos) (gCut1 to) := by
  refine ⟨fun pins s σ H v u Q I r h => ?_⟩
  rw [ha]
  refine wpAny_bind (wpAny_holding (thn (ho.run pins s σ H _ I h) fun ov s1 ⟨y, H1, I1, r1, q1⟩ => ?_))
  obtain ⟨l, b, x, xs, rfl, rfl, hl, hb, hne, q⟩ := q1
  cases r1
  cases r
  refine wpAny_bind (wpAny_holding (wpAny_Slice (thn ((po_none (X := X)).run pins s1 σ H1 (fun o H => o = none ∧ H = H1) I1 ⟨rfl, rfl⟩) fun vl s2 ⟨lo, H2, I2, pl, e1, e2⟩ => thn ((po_some (X := X) (pe_int (i := 1) (j := j) (pos := cpos))).run pins s2 σ H2 (fun o H => o = some 1 ∧ H = H2) I2 ⟨1, rfl, rfl, rfl⟩) fun vu s3 ⟨hi, H3, I3, pu, e3, e4⟩ => ?_)))
  subst e1 e2 e3 e4
  rw [evalPart_none]
  refine wpAny_pure ?_
  have vn : vl = .none := by cases pl; rfl
  subst vn
  have I4 : Inv X pins σ H3 { s3 with heap := s3.heap.push { cls := .type "slice", data := .fields #[.none, vu, .none] } } := I3.kept (t' := s3.toks) fun b ob q => Heap.get?_push_of_some _ q
  refine wpAny_bind (wpAny_standAt (wpAny_bind (wpAny_holding ?_)))
  obtain ⟨z, its, n, r1, hl1, g1⟩ := I4.lstM hl
  obtain ⟨z2, its2, n2, r2, hl2, g2⟩ := I4.lstM hb
  cases r2
  have hlen : its.length = xs.length + 1 := by have := r1.length; simpa using this.symm
  refine cut1_store g1 g2 hne (Heap.IsSliceOf.new ..) pu (by rw [List.size_toArray]; omega) (by rw [List.size_toArray]; omega) ?_
  refine wpAny_release ⟨σ, _, I4.lset (its' := its.drop 1) (t' := s3.toks) hl g1 ?_ (r1.drop 1) ?_, q⟩
  · first
      | (simp; done)
      | (apply Array.toList_inj.mp; simp; exact List.take_of_length_le (by simp))
  · simp; omega
end
section
variable {X : Cx} {G : Gh} {i : Nat} {pos : Pos}
def vsCut1 (i : Nat) (pe : PEv) : PSv := fun ρ D => pe ρ (fun sv r => sv = .ow [] ∧ vRd i r fun own => own.isOwn = true ∧ match own.items with
  | _ :: ds => D.nx (r.set i (some (own.with ds)))
  | [] => False) D.ex
theorem vsCut1_mono {pe : PEv} (he : EMono pe) : SMono (vsCut1 i pe) := fun ρ D D' hl z => he ρ _ _ _ _ (fun sv r z => ⟨z.1, vRd_mono (fun own z => ⟨z.1, by
  have z2 := z.2
  split at z2
  · rename_i d ds e
    exact hl.nx _ z2
  · exact z2.elim⟩) z.2⟩) hl.ex z
theorem vs_cut1 {pe : PEv} {ox val : Expr} {p2 p3 cpos : Pos} {j : Nat} (hv : VE X G val pe) (ho : PE X ox (tVar i))
    (hs : swapsWithSole [.Subscript ox (.Slice none (some (.Constant (.int 1) j cpos)) none p2) p3] val pos.line X.env = pure false := by rfl) (hw : swappedStores [.Subscript ox (.Slice none (some (.Constant (.int 1) j cpos)) none p2) p3] val X.env = pure none := by rfl)
    (h1 : (assignEach [.Subscript ox (.Slice none (some (.Constant (.int 1) j cpos)) none p2) p3] X.env).map (·.2) = [assign (.Subscript ox (.Slice none (some (.Constant (.int 1) j cpos)) none p2) p3) X.env] := by rfl)
    (ha : ∀ v, assign (.Subscript ox (.Slice none (some (.Constant (.int 1) j cpos)) none p2) p3) X.env v = (do
      let ov ← holding [v] (eval ox X.env)
      let iv ← holding [v, ov] (eval (.Slice none (some (.Constant (.int 1) j cpos)) none p2) X.env)
      standAt p3
      holding [v, ov, iv] (setItem ov iv v)
      release [iv, v, ov] []) := by intro _; rfl) : VS X G (.Assign [.Subscript ox (.Slice none (some (.Constant (.int 1) j cpos)) none p2) p3] val pos) (vsCut1 i pe) := by
  refine ⟨vsCut1_mono hv.mono, fun We tk => (ps_asg (hv.run We tk) (pg_cut1 ho ha) hs hw h1).weak fun D σ H ⟨hs, ρ, O, st, z⟩ => ?_⟩
  refine ⟨hs, ρ, O, st, hv.mono ρ _ _ _ _ (fun sv r z v H1 O1 st1 rv => ?_) (fun _ _ _ w => w) z⟩
  obtain ⟨rfl, z⟩ := z
  obtain ⟨b, ys, rfl, hb, hOb, h0b, rb, nb, _⟩ := rv
  have ey : ys = [] := repL_nil.mp rb
  subst ey
  obtain ⟨own, h0, ho0, z⟩ := vRd_some z
  obtain ⟨a, xs0, e0, hx0, hO0, rr0⟩ := own_at st1 h0 ho0
  split at z
  · rename_i d ds e
    rw [e] at rr0
    obtain ⟨y, ys, rfl, _, rt⟩ := repL_cons.mp rr0
    refine ⟨.ref a, e0, a, b, y, ys, rfl, rfl, hx0, hb, fun z => nb i own h0 ho0 (z ▸ e0), ?_⟩
    exact z σ _ O1 (st1.write h0 ho0 e0 rt)
  · exact z.elim
theorem vsCut1_K {pe : PEv} {ρ : Env} {D : VEnds} : vsCut1 i pe ρ D = pe ρ (fun sv r => sv = .ow [] ∧ vRd i r fun own => own.isOwn = true ∧ match own.items with
  | _ :: ds => D.nx (r.set i (some (own.with ds)))
  | [] => False) D.ex := rfl
end
end Vx

namespace Vx
open PySem PySem.Spec PyProof.Rows L2

/-! ### a dict with written keys, made at once, read and never changed -/
section
variable {P : Program} {w : World} {H : Hp} {h h' : Heap} {d : Addr} {o : HO} {fs : List Addr}
theorem hok_take (x : HOk P w H h) (k : ∀ b u, b ≠ d → h.get? b = some u → h'.get? b = some u) (hn : H d = none) (new : ObjOk P w (upd H d o) h' d o) : HOk P w (upd H d o) h' := fun b u e => by
  by_cases hb : b = d
  · subst hb
    rw [upd_same] at e
    cases e
    exact new
  · rw [upd_ne hb] at e
    refine (x b u e).stay (fun c v hc q => k c v ?_ q) (fun c q => ?_) fun c xs q => ?_
    · rcases hc with rfl | hc
      · exact hb
      · exact ne_of_none hc hn
    · rw [upd_ne (ne_of_none q hn)]; exact q
    · rw [upd_ne (ne_of_none q hn)]; exact q
theorem un_take (k : ∀ b u, b ≠ d → h.get? b = some u → h'.get? b = some u) (hn : H d = none) : Un fs [d] H (upd H d o) h h' := by
  have ne : ∀ {b : Addr}, b ∉ [d] → b ≠ d := fun hx z => hx (z ▸ List.mem_cons_self)
  exact ⟨fun b u q _ _ hx => k b u (ne hx) q, fun b u q _ _ hx => ⟨u.slots, k b u (ne hx) q⟩, fun b u q n hx => (upd_ne (ne hx)).trans n, fun b u q hx => ⟨u, k b u (ne hx) q⟩,
    fun b xs q => (upd_ne (ne_of_none q hn)).trans q, fun b u v q => (upd_ne (ne_of_none q hn)).trans q, fun b ps q => ⟨#[], by rw [upd_ne (ne_of_none q hn), q]; simp⟩⟩
end
theorem putK_fresh {κ : Type} [DecidableEq κ] {kvs : List (κ × V)} {k : κ} {v : V} (h : ∀ p ∈ kvs, p.1 ≠ k) : L2.putK kvs k v = kvs ++ [(k, v)] := by
  unfold L2.putK
  rw [if_neg]
  intro z
  obtain ⟨p, hp, e⟩ := List.any_eq_true.mp z
  exact h p hp (of_decide_eq_true e)
theorem mergeK_new : ∀ (more kvs : List (L2.Key × V)), ((kvs ++ more).map (·.1)).Nodup → mergeK kvs more = kvs ++ more
  | [], kvs, _ => by rw [List.append_nil]; rfl
  | p :: r, kvs, h => by
    show mergeK (L2.putK kvs p.1 p.2) r = _
    have hn : ∀ q ∈ kvs, q.1 ≠ p.1 := fun q hq z => by
      rw [List.map_append, List.map_cons] at h
      have := (List.nodup_append.mp h).2.2 q.1 (List.mem_map.mpr ⟨q, hq, rfl⟩) p.1 List.mem_cons_self
      exact this z
    rw [putK_fresh hn, mergeK_new r (kvs ++ [(p.1, p.2)]) (by rw [List.append_assoc]; exact h), List.append_assoc]
    rfl
def tDispK (trs : List (TE × TE)) : TE := fun σ H Q => tPairs trs σ H fun ps H2 => ∃ kvs : List (L2.Key × V), ps = kvs.map (fun kv => (kV kv.1, kv.2)) ∧ kvs.length ≤ 15 ∧ ∀ p, H2 p = none → Q (.ref p) (upd H2 p (.dK (mergeK [] kvs)))
theorem pe_dispK {X : Cx} {pos : Pos} {keys : List (Option Expr)} {values : List Expr} {trs : List (TE × TE)} (h : PPs X pos keys values trs) (hall : keys.all (·.isSome) = true) (hl : keys.length = values.length) (h0 : keys ≠ [])
    (h15 : keys.length ≤ 15) : PE X (.Dict keys values pos) (tDispK trs) := by
  refine ⟨fun pins s σ H Q I q => ?_⟩
  have hn := I.hok.fresh (Nat.le_refl s.heap.objs.size)
  have I0 : Inv X pins σ H { s with heap := s.heap.push { cls := .type "dict", data := .dict #[] } } := I.kept (t' := s.toks) fun _ _ q => Heap.get?_push_of_some _ q
  have I1 : Inv X ((s.heap.objs.size, { cls := .type "dict", data := .dict #[] }) :: pins) σ H { s with heap := s.heap.push { cls := .type "dict", data := .dict #[] } } := I0.pins_of fun p hp => by
    rcases List.mem_cons.mp hp with rfl | hp
    · exact ⟨Heap.get?_push_size _ rfl, hn, Ne.symm (Nat.ne_of_lt I.lt), I.nofs (Nat.le_refl _), fun v z => by cases z⟩
    · exact I0.pin p (List.mem_append_right _ hp)
  refine wpAny_Dict_walk (knd := mixKind X.prog X.w) hall hl h0 h15 (thn (h.run _ _ σ _ _ I1 q) fun ws s2 ⟨ps, H2, I2, rel, kvs, ep, lk, q2⟩ => ?_)
  subst ep
  obtain ⟨rs, c, rk⟩ := carries_of (P := X.prog) (w := X.w) rel
  obtain ⟨g1, g2, g3, g4, g5⟩ := I2.pin _ (List.mem_append_right _ List.mem_cons_self)
  have dd : s2.heap.DictOf (mixKind X.prog X.w) s.heap.objs.size [] := by
    obtain ⟨o, es, ep, e, r⟩ := Heap.DictOf.new (knd := mixKind X.prog X.w) s.heap
    rw [Heap.get?_push_size _ rfl] at e
    cases e
    exact ⟨_, es, ep, g1, r⟩
  refine ⟨rs, c, dd, fun h' dd' hs => ⟨.ref s.heap.objs.size, upd H2 s.heap.objs.size (.dK (mergeK [] kvs)), ?_, rfl, q2 _ g2⟩⟩
  have hz : (mergeK [] kvs).length ≤ sizeLine := by
    have h1 := length_mergeK kvs []
    rw [List.length_nil] at h1
    rw [sizeLine_eq]; omega
  have k : ∀ b u, b ≠ s.heap.objs.size → s2.heap.get? b = some u → h'.get? b = some u := fun b u hb e => (hs.2 b hb).trans e
  have I3 : Inv X pins σ H2 s2 := I2.pins_of fun p hp => I2.pin p (List.mem_append_right _ (List.mem_cons_of_mem _ hp))
  refine I3.call (un_take k g2) (hok_take I3.hok k g2 (dk_new hz (beq_eq_false_iff_ne.mpr (Ne.symm (Nat.ne_of_lt I.big))) (rk.merge .nil) dd')) I3.bare fun b hb => ?_
  obtain rfl := List.mem_singleton.mp hb
  refine ⟨.inr I.sz, g3, fun x c e z => ?_, fun p hp z => ?_⟩
  · obtain ⟨v, o, ho, _⟩ := I.cell x c e
    have := Heap.lt_size ho
    rw [z] at this
    exact absurd this (Nat.lt_irrefl _)
  · have := Heap.lt_size (I.pin p hp).1
    rw [z] at this
    exact absurd this (Nat.lt_irrefl _)
/-- the pairs of a display with written keys -/
structure VP (X : Cx) (G : Gh) (pos : Pos) (keys : List (Option Expr)) (values : List Expr) (ks : List Str) (pes : List PEv) : Prop where
  mono : VMono pes
  all : keys.all (·.isSome) = true
  len : keys.length = values.length
  run : ∀ We, Tk X G We → ∃ trs, PPs X pos keys values trs ∧ ∀ σ H (Q : List (V × V) → Hp → Prop), (∃ hs ρ O, StR G X.K hs σ H ρ O ∧ vVals pes ρ (fun ds ρ' => ∀ vs H' O', StR G X.K hs σ H' ρ' O' → RepL X.K O' H' ds vs → vs.length = ks.length → Q ((ks.zip vs).map fun p => (V.str p.1, p.2)) H') (We hs)) → tPairs trs σ H Q
section
variable {X : Cx} {G : Gh} {pos : Pos} {keys : List (Option Expr)} {values : List Expr} {ks : List Str} {pes : List PEv} {e : Expr} {p : PEv}
theorem vp_nil : VP X G pos [] [] [] [] := ⟨fun ρ k k' W W' hk hW h => hk _ _ h, rfl, rfl, fun We tk => ⟨[], pps_nil, fun σ H Q ⟨hs, ρ, O, st, q⟩ => q [] H O st (repL_nil.mpr rfl) rfl⟩⟩
theorem vp_cons {x : Str} {j : Nat} {cpos : Pos} (hv : VE X G e p) (hr : VP X G pos keys values ks pes) : VP X G pos (some (.Constant (.str x) j cpos) :: keys) (e :: values) (x :: ks) (p :: pes) := by
  refine ⟨fun ρ k k' W W' hk hW h => hv.mono ρ _ _ W W' (fun a r q => hr.mono r _ _ W W' (fun as r2 q2 => hk _ _ q2) hW q) hW h, hr.all, congrArg Nat.succ hr.len, fun We tk => ?_⟩
  obtain ⟨trs, hp, hrun⟩ := hr.run We tk
  refine ⟨_, pps_cons pe_str (hv.run We tk) hp, fun σ H Q ⟨hs, ρ, O, st, q⟩ => ?_⟩
  refine ⟨hs, ρ, O, st, hv.mono ρ _ _ _ _ (fun sv r q y H1 O1 st1 r1 => ?_) (fun _ _ _ w => w) q⟩
  obtain ⟨O2, st2, _, r2⟩ := ResR.freeze st1 r1
  refine hrun σ H1 _ ⟨HdI.val sv.fz y :: hs, r, O2, st2.hold r2, hr.mono r _ _ _ _ (fun ds r3 q2 ys H3 O3 st3 rs hlen => ?_) (tk.up _ _ fun p hp => List.mem_cons_of_mem _ hp) q⟩
  exact q2 (y :: ys) H3 O3 (st3.fewer fun p hp => List.mem_cons_of_mem _ hp) (repL_cons.mpr ⟨y, ys, rfl, st3.held sv.fz y List.mem_cons_self, rs⟩) (congrArg Nat.succ hlen)
def vDisp (ks : List Str) (pes : List PEv) : PEv := fun ρ Q W => vVals pes ρ (fun ds r => Q (.sh (.rc none ks ds)) r) W
theorem StR.resRc {K : PySem.W.Frag} {hs : Hd} {σ : L2.St} {H : Hp} {ρ : Env} {O : Own} (st : StR G K hs σ H ρ O) {a : Addr} {xs : List V} {ds : List D} (hp : H a = none) (r : RepL K O H ds xs) :
    StR G K hs σ (upd H a (.dK ((ks.map Sum.inr).zip xs))) ρ O ∧ ResR G K hs σ ρ O (upd H a (.dK ((ks.map Sum.inr).zip xs))) (.sh (.rc none ks ds)) (.ref a) := by
  obtain ⟨st', s⟩ := st.new (o := .dK ((ks.map Sum.inr).zip xs)) hp
  exact ⟨st', rep_rc.mpr ⟨a, xs, rfl, ⟨fun z => st.alloc a z hp, upd_same⟩, RepL.stp s _ _ r⟩⟩
theorem ve_disp (h : VP X G pos keys values ks pes) (h0 : keys ≠ []) (h15 : keys.length ≤ 15) (hk : ks.length = keys.length) (nd : (ks.map (Sum.inr : Str → L2.Key)).Nodup) : VE X G (.Dict keys values pos) (vDisp ks pes) := by
  refine ⟨fun ρ Q Q' W W' hQ hW z => h.mono ρ _ _ W W' (fun ds r q => hQ _ _ q) hW z, fun We tk => ?_⟩
  obtain ⟨trs, hp, hrun⟩ := h.run We tk
  refine (pe_dispK hp h.all h.len h0 h15).weak fun σ H Q ⟨hs, ρ, O, st, q⟩ => hrun σ H _ ⟨hs, ρ, O, st, h.mono ρ _ _ _ _ (fun ds r q vs H1 O1 st1 r1 hlen => ?_) (fun _ _ _ w => w) q⟩
  have e1 : ((ks.map Sum.inr).zip vs).map (·.1) = ks.map (Sum.inr : Str → L2.Key) := List.map_fst_zip (by rw [List.length_map, hlen]; exact Nat.le_refl _)
  have e2 : ((ks.zip vs).map fun p => (V.str p.1, p.2)) = (((ks.map Sum.inr).zip vs : List (L2.Key × V))).map fun kv => (kV kv.1, kv.2) := by
    rw [List.zip_map_left, List.map_map]
    rfl
  refine ⟨(ks.map Sum.inr).zip vs, e2, by rw [List.length_zip, List.length_map]; omega, fun p hp => ?_⟩
  rw [mergeK_new _ [] (by rw [List.nil_append, e1]; exact nd), List.nil_append]
  obtain ⟨st2, r2⟩ := st1.resRc (ks := ks) hp r1
  exact q _ _ _ st2 r2
theorem vDisp_K {ρ : Env} {Q : QV} {W : WxV} : vDisp ks pes ρ Q W = vVals pes ρ (fun ds r => Q (.sh (.rc none ks ds)) r) W := rfl
end
/-! ### d[k] -/
def rcAt : List Str → List D → Str → Option D
  | x :: ks, d :: ds, y => if x = y then some d else rcAt ks ds y
  | _, _, _ => none
def fRIx : F2
  | .rc none ks ds, .str y, k => match rcAt ks ds y with
    | some d => k (.sh d)
    | none => False
  | _, _, _ => False
theorem fRIx_mono : F2.Mono fRIx := by
  intro d e k k' hk h
  unfold fRIx at h ⊢
  split at h
  · split at h
    · exact hk _ h
    · exact h.elim
  · exact h.elim
theorem rcAt_val {K : PySem.W.Frag} {O : Own} {H : Hp} : ∀ {ks : List Str} {ds : List D} {xs : List V} {y : Str} {d : D}, RepL K O H ds xs → rcAt ks ds y = some d → ∃ v, valV ((ks.map Sum.inr).zip xs) (Sum.inr y : L2.Key) = some v ∧ Rep K O H d v
  | [], _, _, _, _, _, e => by simp [rcAt] at e
  | x :: ks, [], _, _, _, _, e => by simp [rcAt] at e
  | x :: ks, d :: ds, xs, y, d', r, e => by
    obtain ⟨v, vs, rfl, r1, r2⟩ := repL_cons.mp r
    unfold rcAt at e
    rw [List.map_cons, List.zip_cons_cons]
    by_cases c : x = y
    · rw [if_pos c] at e
      cases e
      exact ⟨v, valV_pos (by rw [c]), r1⟩
    · rw [if_neg c] at e
      obtain ⟨v', e', r'⟩ := rcAt_val r2 e
      exact ⟨v', by rw [valV_neg (fun z => c (Sum.inr.inj z))]; exact e', r'⟩
def rDGet : R2 := fun x y H Q => ∃ a v, x = .ref a ∧ DGet H a y (some v) ∧ Q v H
section
variable {X : Cx} {G : Gh}
theorem ov_rix : OpV X G rDGet fRIx := by
  intro σ hs ρ O H x y d e Q st vx vy hf
  unfold fRIx at hf
  split at hf
  · rename_i ks ds y'
    rw [view_str vy]
    obtain ⟨a, xs, rfl, ok, rr⟩ := rep_rc.mp (show Rep X.K O H (.rc none ks ds) x from vx)
    split at hf
    · rename_i d hd
      obtain ⟨v, e1, r1⟩ := rcAt_val rr hd
      refine ⟨a, v, rfl, ?_, hf v H O st r1⟩
      have := DGet.k (k := Sum.inr y') ok.2
      rw [e1] at this
      exact this
    · exact hf.elim
  · exact hf.elim
theorem ve_rix {a b : Expr} {pa pb : OpP} {pos : Pos} (hu : X.A.units + 1 < cLine) (ha : VO X G a pa) (hb : VO X G b pb) (hs : NoSl b) : VE X G (.Subscript a b pos) (vBin fRIx pa pb) :=
  ⟨vBin_mono fRIx_mono ha.mono hb.mono, fun We tk => (pe_dget hu (ha.run We tk) (hb.run We tk) hs).weak fun σ H Q q => tOp_of fRIx_mono ov_rix ha.mono hb.mono tk.up q⟩
theorem fRIx_K {ks : List Str} {ds : List D} {y : Str} {k : SV → Prop} : fRIx (.rc none ks ds) (.str y) k = (match rcAt ks ds y with
    | some d => k (.sh d)
    | none => False) := rfl
end
end Vx

namespace Vx
open PySem PySem.Spec PyProof.Rows L2

/-! ### tuple(range(n)) -/
def vTupRg (p : PEv) : PEv := fun ρ Q W => p ρ (fun sv r => match sv with
  | .sh (.int n) => 0 ≤ n ∧ n ≤ 16777216 ∧ Q (.sh (.tup (intsFrom 0 n.toNat))) r
  | _ => False) W
theorem ve_tupRg {X : Cx} {G : Gh} {a : Expr} {pa : PEv} {p p2 pos pos2 : Pos} (hc : X.calm = true) (hg : Gl X "tuple") (hm : X.mg "tuple" = none) (hg2 : Gl X "range") (hm2 : X.mg "range" = none) (ha : VE X G a pa)
    (na : starEach [a] X.env = (false, eval a X.env) :: starEach [] X.env := by rfl)
    (na2 : starEach [Expr.Call (.Name "range" p2) [a] [] pos2] X.env = (false, eval (.Call (.Name "range" p2) [a] [] pos2) X.env) :: starEach [] X.env := by rfl) :
    VE X G (.Call (.Name "tuple" p) [.Call (.Name "range" p2) [a] [] pos2] [] pos) (vTupRg pa) := by
  refine ⟨fun ρ Q Q' W W' hQ hW z => ha.mono ρ _ _ _ _ (fun sv r z => ?_) hW z, fun We tk => (pe_tupRg hc hg hm (prg_1 (pos := pos2) (p := p2) hg2 hm2 (ha.run We tk) na) na2).weak fun σ H Q ⟨hs, ρ, O, st, z⟩ => ⟨hs, ρ, O, st, ha.mono ρ _ _ _ _ (fun sv r z v H' O' st' rv => ?_) (fun _ _ _ w => w) z⟩⟩
  · split at z
    · exact ⟨z.1, z.2.1, hQ _ _ z.2.2⟩
    · exact z.elim
  · split at z
    · rename_i n
      obtain ⟨z1, z2, z3⟩ := z
      have e := rep_int.mp (show Rep X.K O' H' (.int n) v from rv)
      subst e
      refine ⟨n, rfl, RgOk.of_le (by omega) z2 (by omega) z1, fun q hq => ?_⟩
      have e1 : rgV 0 n = ((List.range n.toNat).map fun i : Nat => (0 : Int) + (i : Int)).map V.int := by
        unfold rgV
        rw [List.map_map, Int.sub_zero]
        rfl
      have e2 : intsFrom 0 n.toNat = ((List.range n.toNat).map fun i : Nat => (0 : Int) + (i : Int)).map D.int := by
        unfold intsFrom
        rw [List.map_map]
        rfl
      rw [e1]
      rw [e2] at z3
      obtain ⟨st3, r3⟩ := st'.resTup (ds := ((List.range n.toNat).map fun i : Nat => (0 : Int) + (i : Int)).map D.int) hq RepL.ints
      exact z3 _ _ _ st3 r3
    · exact z.elim
theorem vTupRg_K {p : PEv} {ρ : Env} {Q : QV} {W : WxV} : vTupRg p ρ Q W = p ρ (fun sv r => match sv with
  | .sh (.int n) => 0 ≤ n ∧ n ≤ 16777216 ∧ Q (.sh (.tup (intsFrom 0 n.toNat))) r
  | _ => False) W := rfl
end Vx

namespace Vx
open PySem PySem.Spec PyProof.Rows L2

/-! ### sets of tuples with ints and strings inside -/
abbrev TuM (P : Program) (w : World) (h : Heap) (k : List L2.Key) (b : Addr) : Prop := IsTupleKey (mixKind P w) h k b
abbrev hsM (P : Program) (w : World) (k : List L2.Key) : Int := tupleKeyHash (mixKind P w) k
abbrev EnM : Type := Addr × List L2.Key
def rowM (P : Program) (w : World) (p : EnM) : Int × Value := (hsM P w p.2, Value.ref p.1)
section
variable {P : Program} {w : World} {A : Around} {E : Value → Shared → Prop} {s : Shared}
def PlainV (v : Value) : Prop := (∀ n, ofAClassStatement n v = pure false) ∧ ∃ b : Bool, ∀ n, hashByValue n v = pure b
theorem plainV_items {k : List L2.Key} {vs : List Value} (h : ItemsAre (mixKind P w) k vs) : ∀ v ∈ vs, PlainV v := by
  induction h with
  | nil => exact fun v hv => absurd hv List.not_mem_nil
  | cons h1 _ ih =>
    intro v hv
    rcases List.mem_cons.mp hv with rfl | hv
    · rcases keyIs_shape h1 with ⟨i, t, rfl, rfl⟩ | ⟨x, t, rfl, rfl⟩
      · exact ⟨fun n => by cases n <;> rfl, true, fun n => by cases n <;> rfl⟩
      · exact ⟨fun n => by cases n <;> rfl, false, fun n => by cases n <;> rfl⟩
    · exact ih v hv
/-- is it of a class statement? no -/
theorem tuM_class {k : List L2.Key} {b : Addr} {Q : Bool → Shared → Prop} (hk : TuM P w s.heap k b) (h : Q false s) : wpAny (model P w) A (ofAClassStatement 8 (.ref b)) Q E s := by
  have ty := hk.typeIs
  obtain ⟨o, its, n, ho, _, hd, hi⟩ := hk
  have yes : (("tuple" : String) == "tuple") = true := rfl
  unfold ofAClassStatement
  refine wpAny_bind (wpAny_typeOf ty ?_)
  simp only [yes, if_true, Bool.not_true, Bool.false_eq_true, if_false]
  try refine wpAny_bind (wpAny_pure ?_)
  try simp only [Bool.not_true, Bool.false_eq_true, if_false]
  refine wpAny_bind (m := seqItems? (.ref b)) (wpAny_seqItems ho hd ?_)
  refine wpAny_bind (m := forIn its _ _) ?_
  rw [← Array.forIn_toList]
  refine wpAny_forIn_list _ (fun left r z => (r.1 = none ∧ z = s) ∧ ∀ v ∈ left, PlainV v) _ (fun v left r z hI => ?_) (fun r z hI => ?_) _ _ ⟨⟨rfl, rfl⟩, plainV_items hi⟩
  · obtain ⟨⟨_, rfl⟩, hall⟩ := hI
    rw [(hall v List.mem_cons_self).1]
    refine wpAny_bind (wpAny_pure ?_)
    simp only [Bool.false_eq_true, if_false]
    exact wpAny_pure ⟨⟨rfl, rfl⟩, fun u hu => hall u (List.mem_cons_of_mem _ hu)⟩
  · obtain ⟨r1, r2⟩ := r
    obtain ⟨⟨e, rfl⟩, _⟩ := hI
    cases e
    exact wpAny_pure h
/-- is it hashed by its value? one or the other -/
theorem tuM_byValue {k : List L2.Key} {b : Addr} {Q : Bool → Shared → Prop} (hk : TuM P w s.heap k b) (h : ∀ c, Q c s) : wpAny (model P w) A (hashByValue 8 (.ref b)) Q E s := by
  have ty := hk.typeIs
  obtain ⟨o, its, n, ho, _, hd, hi⟩ := hk
  unfold hashByValue
  refine wpAny_bind (wpAny_specialOf ty F.slot_tuple_hash.lookup ?_)
  refine wpAny_bind (m := seqItems? (.ref b)) (wpAny_seqItems ho hd ?_)
  refine wpAny_bind (m := forIn its _ _) ?_
  rw [← Array.forIn_toList]
  refine wpAny_forIn_list _ (fun left r z => z = s ∧ ∀ v ∈ left, PlainV v) _ (fun v left r z hI => ?_) (fun r z hI => ?_) _ _ ⟨rfl, plainV_items hi⟩
  · obtain ⟨rfl, hall⟩ := hI
    obtain ⟨_, c, hc⟩ := hall v List.mem_cons_self
    rw [hc]
    refine wpAny_bind (wpAny_pure ?_)
    cases c
    · simp only [Bool.not_false, if_true]
      exact wpAny_pure (wpAny_pure (h _))
    · simp only [Bool.not_true, Bool.false_eq_true, if_false]
      exact wpAny_pure ⟨rfl, fun u hu => hall u (List.mem_cons_of_mem _ hu)⟩
  · obtain ⟨r1, r2⟩ := r
    obtain ⟨rfl, _⟩ := hI
    cases r1 <;> exact wpAny_pure (h _)
/-- to search among such tuples shows nothing -/
theorem tuM_unseen {k : List L2.Key} {b : Addr} {Q : Bool → Shared → Prop} (hk : TuM P w s.heap k b) {ys : List Value} (hy : ∀ y ∈ ys, ∃ p : EnM, y = .ref p.1 ∧ TuM P w s.heap p.2 p.1) (h : Q false s) :
    wpAny (model P w) A (searchCouldBeSeen (.ref b) ys) Q E s := by
  unfold searchCouldBeSeen
  refine wpAny_bind (wpAny_forIn_list _ (fun left r z => (r.1 = none ∧ z = s) ∧ ∀ y ∈ left, ∃ p : EnM, y = .ref p.1 ∧ TuM P w s.heap p.2 p.1) _ (fun v left r z hI => ?_) (fun r z hI => ?_) _ _ ⟨⟨rfl, rfl⟩, hy⟩)
  · obtain ⟨⟨_, rfl⟩, hall⟩ := hI
    obtain ⟨⟨c, kc⟩, rfl, hc⟩ := hall v List.mem_cons_self
    have on : ∀ y ∈ left, ∃ p : EnM, y = .ref p.1 ∧ TuM P w z.heap p.2 p.1 := fun u hu => hall u (List.mem_cons_of_mem _ hu)
    dsimp only at hc ⊢
    by_cases same : (b == c || (carriedByValue (.ref b) && carriedByValue (.ref c))) = true
    · exact wp_if_pos same (wpAny_pure ⟨⟨rfl, rfl⟩, on⟩)
    · refine wp_if_neg same (wpAny_bind (wpAny_eqIsQuiet_tuple hk ?_))
      simp only [Bool.not_true, Bool.false_eq_true, if_false]
      refine wpAny_bind (wpAny_eqIsQuiet_tuple hc ?_)
      simp only [Bool.not_true, Bool.false_eq_true, if_false]
      refine wpAny_bind (tuM_class hk ?_)
      simp only [Bool.false_eq_true, if_false]
      refine wpAny_bind (tuM_class hc ?_)
      simp only [Bool.false_eq_true, if_false]
      exact wpAny_pure ⟨⟨rfl, rfl⟩, on⟩
  · obtain ⟨r1, r2⟩ := r
    obtain ⟨⟨e, rfl⟩, _⟩ := hI
    cases e
    exact wpAny_pure h

/-- a set of few such tuples -/
structure MSet (P : Program) (w : World) (h : Heap) (S : Addr) (L : List EnM) (es : Array (Int × Value)) (ep : Nat) (t : SetTable) : Prop where
  ob : ∃ o, h.get? S = some o ∧ o.ExactSet ∧ o.data = .set es ep t
  rows : es.toList = L.map (rowM P w)
  tab : TabOk t (L.map fun p => hsM P w p.2)
  uni : (L.map Prod.snd).Nodup
  tus : ∀ p ∈ L, TuM P w h p.2 p.1
  led : w.params.followText "set-order" = true ∨ t.led = true
  fit : (t.mask = 7 ∧ L.length ≤ 4) ∨ (t.mask = 31 ∧ L.length ≤ 18)
variable {S : Addr} {L : List EnM} {es : Array (Int × Value)} {ep : Nat} {t : SetTable}
theorem rows_size (hr : es.toList = L.map (rowM P w)) : es.size = L.length := by
  rw [← Array.length_toList, hr, List.length_map]
theorem MSet.fits (M : MSet P w s.heap S L es ep t) : t.fits es.size = true := by
  have a1 := M.tab.sz
  rw [List.length_map] at a1
  have a2 := rows_size M.rows
  have a3 := M.fit
  simp only [SetTable.fits, SetTable.fill, M.tab.dm, Bool.and_eq_true, beq_iff_eq, decide_eq_true_eq, Array.size_empty]
  omega
theorem MSet.get (M : MSet P w s.heap S L es ep t) {i : Nat} {p : EnM} (h : L[i]? = some p) : es[i]? = some (hsM P w p.2, Value.ref p.1) := by
  rw [← Array.getElem?_toList, M.rows, List.getElem?_map, h]
  rfl
theorem MSet.solid (M : MSet P w s.heap S L es ep t) : ¬ t.gaveWay = true := by
  have o := mask_odd M.tab.mok
  unfold SetTable.gaveWay
  rw [o]
  decide
/-- where a search begins -/
abbrev bgM (t : SetTable) (h : Int) : SetTable.Probe := runAt t.mask (SetTable.bits h % (t.mask + 1)) (SetTable.bits h)
theorem nth_dummy (m : Nat) : ∀ (n : Nat) (p : SetTable.Probe), p.dummy = none → (nth m p n).dummy = none
  | 0, _, h => h
  | n + 1, p, h => nth_dummy m n (adv m p) (by unfold adv; split <;> exact h)
theorem same_block (t : SetTable) : t.sameMemory t.moves t.mask = some true := if_pos (beq_self_eq_true _)
/-- the search that adding asks for, with c steps behind it on which the key was not met -/
theorem MSet.search (M : MSet P w s.heap S L es ep t) {x : Addr} {k : List L2.Key} (hx : TuM P w s.heap k x) (hu : A.units < cLine) {K : Nat} (far : K < 10 * SetTable.turns t.mask)
    (free : way t.mask (hsM P w k) K ∉ t.place.toList) (busy : ∀ c, c < K → way t.mask (hsM P w k) c ∈ t.place.toList) {Q : SetFound → Shared → Prop} (hin : k ∈ L.map Prod.snd → Q (.there none) s)
    (hout : k ∉ L.map Prod.snd → Q (.free (way t.mask (hsM P w k) K) false) s) : ∀ (f c : Nat) (stand : Option SetTable.Probe), stand.getD (t.probeStart (hsM P w k)) = nth t.mask (bgM t (hsM P w k)) c → c ≤ K → K - c < f →
      (∀ (c' i : Nat) (p : EnM), c' < c → L[i]? = some p → t.place.toList[i]? = some (way t.mask (hsM P w k) c') → p.2 ≠ k) → wpAny (model P w) A (setSearchFrom S (.ref x) (hsM P w k) true f stand) Q E s := by
  intro f
  induction f with
  | zero => exact fun c stand _ _ hf _ => absurd hf (Nat.not_lt_zero _)
  | succ f ih =>
    intro c stand hst hc hf gone
    obtain ⟨o, ho, _, hd⟩ := M.ob
    have go := nth_add t.mask c (bgM t (hsM P w k))
    have at_ : ∀ q, (nth t.mask (nth t.mask (bgM t (hsM P w k)) c) q).j = way t.mask (hsM P w k) (c + q) := fun q => by rw [← go q]
    have hash : ∀ (i : Nat) (p : EnM), L[i]? = some p → (es[i]?.map (·.1)).getD 0 = hsM P w p.2 := fun i p hp => by rw [M.get hp]; rfl
    have spec := go_spec t M.tab.ris M.tab.dm (fun i => (es[i]?.map (·.1)).getD 0) (hsM P w k) (10 * SetTable.turns t.mask) (K - c) _ (nth_dummy t.mask c _ rfl) (by omega) (fun q hq => by rw [at_]; exact busy _ (by omega))
      (by rw [at_, show c + (K - c) = K by omega]; exact free)
    rw [setSearchFrom_succ]
    refine wpAny_bind (wpAny_setState_of ho hd M.fits (wp_if_neg M.solid ?_))
    try refine wpAny_bind (wpAny_pure ?_)
    rcases spec with ⟨q, i, hq, hi, hh, no, pr⟩ | ⟨no, pr⟩
    · rw [at_] at hi
      have il : i < L.length := by
        have h1 := (List.getElem?_eq_some_iff.mp hi).1
        have h2 := M.tab.sz
        rw [List.length_map] at h2
        rw [Array.length_toList] at h1
        omega
      obtain ⟨p, hp⟩ : ∃ p, L[i]? = some p := ⟨_, List.getElem?_eq_getElem il⟩
      have pin := List.mem_of_getElem? hp
      have pr2 : t.probe (fun i => (es[i]?.map (·.1)).getD 0) (hsM P w k) (stand.getD (t.probeStart (hsM P w k))) = some (.candidate (way t.mask (hsM P w k) (c + q)) i (nth t.mask (bgM t (hsM P w k)) (c + (q + 1)))) := by
        rw [hst, ← at_, go]
        exact pr
      rw [pr2]
      have look : wpAny (model P w) A (searchRest S (.ref x) (hsM P w k) true f es t (way t.mask (hsM P w k) (c + q)) i (nth t.mask (bgM t (hsM P w k)) (c + (q + 1)))) Q E s := by
        unfold searchRest
        rw [M.get hp]
        refine wpAny_bind (wpAny_holding (wpAny_eqBool_tuple hu (M.tus p pin) hx (wpAny_bind (wpAny_setState_of ho hd M.fits ?_))))
        by_cases eq : p.2 = k
        · exact wp_if_pos (by simp [eq]) (wpAny_pure (hin (List.mem_map.mpr ⟨p, pin, eq⟩)))
        · refine wp_if_neg (by simp [eq]) ?_
          try refine wpAny_bind (wpAny_pure ?_)
          have live := slot_live M.tab.ris hi
          rw [same_block]
          simp only [if_true, live, M.get hp]
          refine wpAny_bind (wpAny_isSame_ref_self (wpAny_bind (wpAny_pure ?_)))
          simp only [if_true]
          refine wp_if_neg (by simp [eq]) (ih (c + (q + 1)) _ rfl (by omega) (by omega) fun c' i' p' hc' hp' hj => ?_)
          rcases Nat.lt_or_ge c' c with k1 | k1
          · exact gone c' i' p' k1 hp' hj
          · rcases Nat.lt_or_ge c' (c + q) with k2 | k2
            · refine fun e => no (c' - c) i' (by omega) (by rw [at_, show c + (c' - c) = c' by omega]; exact hj) ?_
              show (es[i']?.map (·.1)).getD 0 = _
              rw [hash i' p' hp', e]
            · rw [show c' = c + q by omega] at hj
              have l2 := slot_live M.tab.ris hj
              rw [live] at l2
              injection l2 with e
              rw [← e, hp] at hp'
              rw [← Option.some.inj hp']
              exact eq
      by_cases hl : t.led = true
      · refine wp_if_neg (by simp [hl]) ?_
        try refine wpAny_bind (wpAny_pure ?_)
        exact look
      · refine wp_if_pos (by simp [hl]) (wpAny_bind (tuM_unseen hx (fun y hy => ?_) ?_))
        · have hy2 : ∃ e ∈ es.toList, e.2 = y := by
            obtain ⟨e, he, ee⟩ := List.mem_map.mp hy
            have he2 : e ∈ es ∧ e.1 = hsM P w k := by simpa using he
            exact ⟨e, by simpa using he2.1, ee⟩
          obtain ⟨e, he, rfl⟩ := hy2
          rw [M.rows] at he
          obtain ⟨p2, hp2, rfl⟩ := List.mem_map.mp he
          exact ⟨p2, rfl, M.tus p2 hp2⟩
        · refine wp_if_neg (by decide) ?_
          try refine wpAny_bind (wpAny_pure ?_)
          exact look
    · have pr2 : t.probe (fun i => (es[i]?.map (·.1)).getD 0) (hsM P w k) (stand.getD (t.probeStart (hsM P w k))) = some (.empty (way t.mask (hsM P w k) K) none) := by
        have e2 := at_ (K - c)
        rw [show c + (K - c) = K by omega] at e2
        rw [hst, ← e2]
        exact pr
      rw [pr2]
      refine wpAny_pure (hout fun hm => ?_)
      obtain ⟨p, pin, pk⟩ := List.mem_map.mp hm
      obtain ⟨i, il, e⟩ := List.getElem_of_mem pin
      have hp : L[i]? = some p := by rw [List.getElem?_eq_getElem il, e]
      have hs : (L.map fun p => hsM P w p.2)[i]? = some (hsM P w k) := by rw [List.getElem?_map, hp, ← pk]; rfl
      have jl : i < t.place.toList.length := by
        have h2 := M.tab.sz
        rw [List.length_map] at h2
        rw [Array.length_toList]
        omega
      obtain ⟨c', hc', ej⟩ := M.tab.before free hs (List.getElem?_eq_getElem jl)
      have hj : t.place.toList[i]? = some (way t.mask (hsM P w k) c') := by rw [ej]; exact List.getElem?_eq_getElem jl
      rcases Nat.lt_or_ge c' c with k1 | k1
      · exact gone c' i p k1 hp hj pk
      · refine no (c' - c) i (by omega) (by rw [at_, show c + (c' - c) = c' by omega]; exact hj) ?_
        show (es[i]?.map (·.1)).getD 0 = _
        rw [hash i p hp, pk]
theorem MSet.seek (M : MSet P w s.heap S L es ep t) {x : Addr} {k : List L2.Key} (hx : TuM P w s.heap k x) (hu : A.units < cLine) {Q : SetFound → Shared → Prop} (hin : k ∈ L.map Prod.snd → Q (.there none) s)
    (hout : ∀ K, k ∉ L.map Prod.snd → way t.mask (hsM P w k) K ∉ t.place.toList → (∀ c, c < K → way t.mask (hsM P w k) c ∈ t.place.toList) → Q (.free (way t.mask (hsM P w k) K) false) s) :
    wpAny (model P w) A (setSearch S (.ref x) (hsM P w k) true) Q E s := by
  obtain ⟨K, far, free, busy⟩ := M.tab.first (by rw [List.length_map]; rcases M.fit with z | z <;> omega) (hsM P w k)
  have tn : 10 * SetTable.turns t.mask ≤ 1420 := by
    unfold SetTable.turns
    rcases M.fit with z | z <;> omega
  exact M.search hx hu far free busy hin (fun hn => hout K hn free busy) 100000 0 none rfl (Nat.zero_le _) (by omega) fun c' _ _ h => absurd h (Nat.not_lt_zero _)
/-- a tuple is no set -/
theorem tuM_past {h h' : Heap} {k : List L2.Key} {b : Addr} {o : Obj} (hb : TuM P w h k b) (ho : h.get? S = some o) (hd : o.data = .set es ep t) (hs : Heap.SameBut S h h') : TuM P w h' k b := by
  obtain ⟨o2, its, n, h2, hc, d2, hi⟩ := hb
  refine ⟨o2, its, n, (hs.2 b fun e => ?_).trans h2, hc, d2, hi⟩
  rw [e, ho] at h2
  cases h2
  rw [hd] at d2
  cases d2
theorem tuM_keep {h h' : Heap} {k : List L2.Key} {b : Addr} (x : TuM P w h k b) (hk : ∀ c o, h.get? c = some o → h'.get? c = some o) : TuM P w h' k b :=
  let ⟨o, its, n, ho, r⟩ := x
  ⟨o, its, n, hk b o ho, r⟩
/-- rows in a new order -/
theorem rows_order (order : Array Nat) (hr : es.toList = L.map (rowM P w)) (hp : order.toList.Perm (List.range L.length)) :
    ∃ L2 : List EnM, (order.filterMap (es[·]?)).toList = L2.map (rowM P w) ∧ L2.Perm L ∧ (L2.map fun p => hsM P w p.2) = order.toList.map fun i => (es.map (·.1)).getD i 0 := by
  have ent : ∀ i : Nat, es[i]? = (L[i]?).map (rowM P w) := fun i => by rw [← Array.getElem?_toList, hr, List.getElem?_map]
  have all : ∀ i ∈ order.toList, i < L.length := fun i hi => List.mem_range.mp (hp.mem_iff.mp hi)
  refine ⟨order.toList.filterMap fun i => L[i]?, ?_, ?_, ?_⟩
  · rw [Array.toList_filterMap, List.map_filterMap]
    exact congrArg (fun f => List.filterMap f order.toList) (funext ent)
  · have full : (List.range L.length).filterMap (fun i => L[i]?) = L := by
      refine List.ext_getElem? fun i => ?_
      have e : (List.range L.length).filterMap (fun i => L[i]?) = (List.range L.length).pmap (fun i h => L[i]'h) fun i h => List.mem_range.mp h := by
        have key : ∀ (l : List Nat) (h : ∀ i ∈ l, i < L.length), l.filterMap (fun i => L[i]?) = l.pmap (fun i h => L[i]'h) h := by
          intro l
          induction l with
          | nil => intro _; rfl
          | cons a l ih =>
            intro h
            rw [List.filterMap_cons_some (List.getElem?_eq_getElem (h a List.mem_cons_self)), List.pmap_cons, ih fun i hi => h i (List.mem_cons_of_mem _ hi)]
        exact key _ _
      rw [e, List.getElem?_pmap]
      by_cases c : i < L.length
      · simp [c]
      · simp [c]
    have := hp.filterMap fun i => L[i]?
    rwa [full] at this
  · have key : ∀ l : List Nat, (∀ i ∈ l, i < L.length) → ((l.filterMap fun i => L[i]?).map fun p => hsM P w p.2) = l.map fun i => (es.map (·.1)).getD i 0 := by
      intro l
      induction l with
      | nil => intro _; rfl
      | cons i l ih =>
        intro hl
        have e := List.getElem?_eq_getElem (hl i List.mem_cons_self)
        have e2 := ent i
        rw [e] at e2
        rw [List.filterMap_cons_some e, List.map_cons, List.map_cons, ih fun j hj => hl j (List.mem_cons_of_mem _ hj)]
        congr 1
        rw [Array.getD_eq_getD_getElem?, Array.getElem?_map, e2]
        rfl
    exact key _ all
/-- laid anew in a table of 32 -/
theorem relayM {o : Obj} (ho : s.heap.get? S = some o) (hex : o.ExactSet) (hd : o.data = .set es ep t) (hr : es.toList = L.map (rowM P w)) (T : TabOk t (L.map fun p => hsM P w p.2)) (h5 : L.length = 5) (hm : t.mask = 7) (uni : (L.map Prod.snd).Nodup)
    (tus : ∀ p ∈ L, TuM P w s.heap p.2 p.1) (led : w.params.followText "set-order" = true ∨ t.led = true) {Q : Unit → Shared → Prop}
    (hQ : ∀ h' L' es' ep' t', Heap.SameBut S s.heap h' → MSet P w h' S L' es' ep' t' → L'.Perm L → Q () { s with heap := h' }) : wpAny (model P w) A (setRelay S (SetTable.grown 5)) Q E s := by
  have z5 : es.size = 5 := (rows_size hr).trans h5
  have tz := T.sz
  rw [List.length_map, h5] at tz
  have fits : t.fits es.size = true := by
    simp only [SetTable.fits, SetTable.fill, T.dm, Bool.and_eq_true, beq_iff_eq, decide_eq_true_eq, Array.size_empty]
    omega
  obtain ⟨t2, order, e, perm, T2, m2, l2, _, _⟩ := relaid_ok t (hs := es.map (·.1)) (wanted := SetTable.grown 5) (M := 31) (by rw [size_20]) (.inr (.inl rfl)) (by rw [Array.size_map]; omega)
  rw [Array.size_map, rows_size hr] at perm
  obtain ⟨L2, r1, r2, r3⟩ := rows_order order hr perm
  rw [← r3] at T2
  have z2 : (order.filterMap (es[·]?)).size = 5 := by rw [rows_size r1, r2.length_eq, h5]
  have small : ¬ SetTable.sizeAbove (SetTable.grown 5) > sizeLine := by rw [size_20, sizeLine_eq]; decide
  rw [setRelay_eq]
  refine wpAny_bind (wpAny_setState_of ho hd fits (wp_if_neg small ?_))
  try refine wpAny_bind (wpAny_pure ?_)
  rw [e]
  refine wpAny_bind (wp_if_neg (by rw [z2, z5]; decide) ?_)
  try refine wpAny_bind (wpAny_pure ?_)
  refine wpAny_pure (wpAny_storeSet_of ho hd ?_ (by rw [z2, sizeLine_eq]; decide))
  have sb : Heap.SameBut S s.heap (s.heap.update S (Obj.putSet (order.filterMap (es[·]?)) t2)) := Heap.SameBut.update ..
  exact hQ _ L2 _ (ep + 1) t2 sb ⟨⟨_, store_at ho hd, ⟨hex.1, hex.2.1, hex.2.2⟩, rfl⟩, r1, T2, (r2.map _).nodup_iff.mpr uni, fun p hp => tuM_past (tus p (r2.mem_iff.mp hp)) ho hd sb, by rw [l2]; exact led, .inr ⟨m2, by rw [r2.length_eq]; omega⟩⟩ r2
theorem tab_same {t t' : SetTable} {hs : List Int} (T : TabOk t hs) (h1 : t'.place = t.place) (h2 : t'.dummies = t.dummies) (h3 : t'.mask = t.mask) : TabOk t' hs :=
  ⟨by rw [h1]; exact T.ris, by rw [h2]; exact T.dm, by rw [h1]; exact T.sz, by rw [h3]; exact T.mok, by rw [h1, h3]; exact T.bd, by rw [h1, h3]; exact T.reach⟩
/-- one more -/
theorem MSet.add (M : MSet P w s.heap S L es ep t) {x : Addr} {k : List L2.Key} (hx : TuM P w s.heap k x) (hu : A.units < cLine) (few : L.length < 18) {Q : Bool → Shared → Prop}
    (hQ : ∀ b h' L' es' ep' t', Heap.SameBut S s.heap h' → MSet P w h' S L' es' ep' t' → (k ∈ L.map Prod.snd → L' = L) → (k ∉ L.map Prod.snd → L'.Perm ((x, k) :: L)) → Q b { s with heap := h' }) :
    wpAny (model P w) A (setAddHashed S (.ref x) (hsM P w k)) Q E s := by
  obtain ⟨o, ho, hex, hd⟩ := M.ob
  have zl := rows_size M.rows
  unfold setAddHashed
  refine wpAny_holding ?_
  rw [show (100000 : Nat) = 99999 + 1 from rfl, setAddHashedIn_succ]
  refine wpAny_bind (wpAny_setState_of ho hd M.fits (wp_if_neg (by simp [byScan, Value.scannable]) ?_))
  try refine wpAny_bind (wpAny_pure ?_)
  refine wpAny_bind (M.seek hx hu (fun hm => ?_) fun K hm free busy => ?_)
  · exact wpAny_pure (hQ false s.heap L es ep t (Heap.SameBut.refl S s.heap) M (fun _ => rfl) fun z => absurd hm z)
  · refine wpAny_bind (m := setState S) (wpAny_setState_of ho hd M.fits ?_)
    obtain ⟨q1, q2, q3, q4, q5, _, _, _, q9⟩ := M.tab.put free busy
    dsimp only
    generalize hpt : t.put (way t.mask (hsM P w k) K) = pt at q1 q3 q4 q5 q9 ⊢
    obtain ⟨t1, p⟩ := pt
    dsimp only at q1 q3 q4 q5 q9 ⊢
    subst q1
    generalize SetTable.below t.place (way t.mask (hsM P w k) K) = p at q2 q3 ⊢
    have rows1 : (SetTable.insertAt es p (hsM P w k, Value.ref x)).toList = (L.take p ++ (x, k) :: L.drop p).map (rowM P w) := by
      rw [SetTable.toList_insertAt, M.rows, List.map_append, List.map_cons, List.map_take, List.map_drop]
      rfl
    have hs1 : (L.take p ++ (x, k) :: L.drop p).map (fun p => hsM P w p.2) = (L.map fun p => hsM P w p.2).take p ++ hsM P w k :: (L.map fun p => hsM P w p.2).drop p := by
      rw [List.map_append, List.map_cons, List.map_take, List.map_drop]
    rw [← hs1] at q3
    have pm := put_perm L p (x, k)
    generalize L.take p ++ (x, k) :: L.drop p = L1 at pm q3 rows1
    generalize SetTable.insertAt es p (hsM P w k, Value.ref x) = es1 at rows1 ⊢
    have len1 : L1.length = L.length + 1 := pm.length_eq
    have uni1 : (L1.map Prod.snd).Nodup := (pm.map Prod.snd).nodup_iff.mpr (List.nodup_cons.mpr ⟨hm, M.uni⟩)
    rw [List.length_map] at q9
    have main : ∀ t2 : SetTable, t2.place = t1.place → t2.dummies = t1.dummies → t2.mask = t1.mask → t2.led = t1.led → wpAny (model P w) A (do
        storeSet S es1 t2
        if !false && t2.tooFull then setRelay S (SetTable.grown (es.size + 1))
        return true) Q E s := by
      intro t2 e1 e2 e3 e4
      have T2 := tab_same q3 e1 e2 e3
      have fill2 : t2.fill = L.length + 1 := by
        unfold SetTable.fill at q9 ⊢
        rw [e1, e2]; exact q9
      refine wpAny_bind (wpAny_storeSet_of ho hd ?_ (by rw [rows_size rows1, len1, sizeLine_eq]; omega))
      have sb : Heap.SameBut S s.heap (s.heap.update S (Obj.putSet es1 t2)) := Heap.SameBut.update ..
      have ho1 := store_at (es' := es1) (t' := t2) ho hd
      generalize s.heap.update S (Obj.putSet es1 t2) = h1 at sb ho1 ⊢
      have tus1 : ∀ p ∈ L1, TuM P w h1 p.2 p.1 := fun p hp => by
        rcases List.mem_cons.mp (pm.mem_iff.mp hp) with rfl | hp
        · exact tuM_past hx ho hd sb
        · exact tuM_past (M.tus p hp) ho hd sb
      have led1 : w.params.followText "set-order" = true ∨ t2.led = true := by rw [e4, q5]; exact M.led
      have full : t2.tooFull = decide ((L.length + 1) * 5 ≥ t.mask * 3) := by
        unfold SetTable.tooFull
        rw [fill2, e3, q4]
      rw [full]
      by_cases big : (L.length + 1) * 5 ≥ t.mask * 3
      · have l4 : t.mask = 7 ∧ L.length = 4 := by rcases M.fit with z | z <;> omega
        rw [zl, l4.2]
        have five : L1.length = 5 := by rw [len1, l4.2]
        have t7 : t2.mask = 7 := by rw [e3, q4]; exact l4.1
        have go : wpAny (model P w) A (setRelay S (SetTable.grown (4 + 1))) (fun _ s' => wpAny (model P w) A (pure true) Q E s') E { s with heap := h1 } :=
          relayM (s := { s with heap := h1 }) ho1 ⟨hex.1, hex.2.1, hex.2.2⟩ rfl rows1 T2 five t7 uni1 tus1 led1 fun h2 L2 es2 ep2 t3 sb2 M2 pm2 => wpAny_pure (hQ true h2 L2 es2 ep2 t3 (sb.trans sb2) M2 (fun z => absurd z hm) fun _ => pm2.trans pm)
        rw [decide_eq_true (by rw [l4.2] at big; exact big)]
        simp only [Bool.not_false, Bool.true_and, if_true]
        first
          | exact wpAny_bind go
          | exact go
      · rw [decide_eq_false big]
        simp only [Bool.and_false, Bool.false_eq_true, if_false]
        try refine wpAny_bind (wpAny_pure ?_)
        refine wpAny_pure (hQ true h1 L1 es1 (ep + 1) t2 sb ⟨⟨_, ho1, ⟨hex.1, hex.2.1, hex.2.2⟩, rfl⟩, rows1, T2, uni1, tus1, led1, ?_⟩ (fun z => absurd z hm) fun _ => pm)
        rw [e3, q4, len1]
        rcases M.fit with z | z <;> omega
    by_cases hp : t1.plain = true
    · first
        | (refine wpAny_bind ?_; refine wp_if_pos hp ?_; refine tuM_byValue hx fun c => ?_)
        | refine wp_if_pos hp (wpAny_bind (tuM_byValue hx fun c => ?_))
      cases c
      · exact main { t1 with plain := false } rfl rfl rfl rfl
      · exact main t1 rfl rfl rfl rfl
    · first
        | (refine wpAny_bind ?_; refine wp_if_neg hp ?_; refine wpAny_pure ?_)
        | refine wp_if_neg hp (wpAny_bind (wpAny_pure ?_))
      exact main t1 rfl rfl rfl rfl
/-- what a set has of the first i of ks -/
def HasM (ks : List EnM) (i : Nat) (L : List EnM) : Prop := L.length ≤ i ∧ (∀ p ∈ L, p ∈ ks) ∧ ∀ j p, j < i → ks[j]? = some p → p.2 ∈ L.map Prod.snd
theorem hasM_next {ks L L' : List EnM} {i : Nat} {x : EnM} (g : HasM ks i L) (hx : ks[i]? = some x) (c1 : x.2 ∈ L.map Prod.snd → L' = L) (c2 : x.2 ∉ L.map Prod.snd → L'.Perm (x :: L)) : HasM ks (i + 1) L' := by
  obtain ⟨g1, g2, g3⟩ := g
  have last : ∀ j p, j < i + 1 → ks[j]? = some p → (∀ q ∈ L.map Prod.snd, q ∈ L'.map Prod.snd) → x.2 ∈ L'.map Prod.snd → p.2 ∈ L'.map Prod.snd := fun j p hj hp up hx2 => by
    rcases Nat.lt_or_ge j i with k | k
    · exact up _ (g3 j p k hp)
    · rw [show j = i by omega, hx] at hp
      rw [← Option.some.inj hp]; exact hx2
  by_cases h : x.2 ∈ L.map Prod.snd
  · have e := c1 h
    subst e
    exact ⟨by omega, g2, fun j p hj hp => last j p hj hp (fun _ h => h) h⟩
  · have pm := c2 h
    refine ⟨by rw [pm.length_eq, List.length_cons]; omega, fun p hp => ?_, fun j p hj hp => last j p hj hp (fun q hq => ?_) ?_⟩
    · rcases List.mem_cons.mp (pm.mem_iff.mp hp) with rfl | hp
      · exact List.mem_of_getElem? hx
      · exact g2 p hp
    · exact (pm.map Prod.snd).mem_iff.mpr (List.mem_cons_of_mem _ hq)
    · exact (pm.map Prod.snd).mem_iff.mpr List.mem_cons_self
theorem MSet.stay {h h' : Heap} (M : MSet P w h S L es ep t) (hS : ∀ o, h.get? S = some o → h'.get? S = some o) (ht : ∀ p ∈ L, TuM P w h' p.2 p.1) : MSet P w h' S L es ep t :=
  let ⟨o, ho, r⟩ := M.ob
  ⟨⟨o, hS o ho, r⟩, M.rows, M.tab, M.uni, ht, M.led, M.fit⟩
theorem mset_bare {h : Heap} (ho : h.get? S = some { cls := .type "set", dict := none, data := .set #[] 0 (.fresh 0 0 (!w.params.followText "set-order")) }) : MSet P w h S [] #[] 0 (.fresh 0 0 (!w.params.followText "set-order")) := by
  refine ⟨⟨_, ho, ⟨rfl, rfl, rfl⟩, rfl⟩, rfl, ⟨List.Pairwise.nil, rfl, rfl, .inl rfl, fun x hx => (by cases hx), fun i h j hi => (by simp at hi)⟩, List.nodup_nil, fun p hp => absurd hp List.not_mem_nil, ?_, .inl ⟨rfl, Nat.zero_le _⟩⟩
  by_cases c : w.params.followText "set-order" = true
  · exact .inl c
  · exact .inr (by show (!w.params.followText "set-order") = true; simpa using c)
/-- the loop that fills a set -/
theorem fillM {I : Addr} {fp wr : List Addr} {G : Array GenState → Array GenState → Prop} {n : Nat} {Pv : Nat → Value → Prop} {St : Nat → Shared → Prop} {R : Result → Shared → Prop} (W : WalksS P w A.in1 I fp wr G n Pv St)
    (hS : S ∉ fp) (ks : List EnM) (hn : n = ks.length) (few : ks.length ≤ 18) (val : ∀ i v, Pv i v → ∃ p, ks[i]? = some p ∧ v = .ref p.1) (h0 : Heap) (hk : ∀ p ∈ ks, TuM P w h0 p.2 p.1) (new : h0.get? S = none) (newW : ∀ b ∈ wr, h0.get? b = none) (hu : A.in1.units < cLine) :
    ∀ (m i : Nat) (s : Shared), n - i = m → i ≤ n → St i s → (∀ b o, h0.get? b = some o → s.heap.get? b = some o) → (∃ L es ep t, MSet P w s.heap S L es ep t ∧ HasM ks i L) →
      (∀ s' L es ep t, Moved (S :: wr) G s s' → MSet P w s'.heap S L es ep t → HasM ks n L → (∀ b o, h0.get? b = some o → s'.heap.get? b = some o) → R (.ok (.ret .none)) s') →
      codeAny (model P w) A (.builtin "set.update.loop" ⟨[.ref S, .ref I], []⟩) R s := by
  have Sw : S ∉ wr := fun h => hS (W.sub _ h)
  have up : ∀ {s s' : Shared}, Moved wr G s s' → (∀ b o, h0.get? b = some o → s.heap.get? b = some o) → ∀ b o, h0.get? b = some o → s'.heap.get? b = some o := fun hm k b o e => hm.heap b o (fun hb => by rw [newW b hb] at e; cases e) (k b o e)
  intro m
  induction m with
  | zero =>
    intro i s hm hi st k0 ⟨L, es, ep, t, M, g⟩ fin
    have e : i = n := by omega
    subst e
    refine codeAny_builtin F.entry_set_update_loop ?_
    rw [Around.under_plainId F.plain_set_update_loop _]
    refine wpAny_bind (m := pyNext (.ref I)) (W.done s _ _ st fun s' mv => ?_)
    have k1 := up mv k0
    exact wpAny_pure (fin s' L es ep t (mv.mono fun b hb => List.mem_cons_of_mem _ hb) (M.stay (fun o e => mv.heap S o Sw e) fun p hp => tuM_keep (hk p (g.2.1 p hp)) k1) g k1)
  | succ m ih =>
    intro i s hm hi st k0 ⟨L, es, ep, t, M, g⟩ fin
    have lt : i < n := by omega
    refine codeAny_builtin F.entry_set_update_loop ?_
    rw [Around.under_plainId F.plain_set_update_loop _]
    refine wpAny_bind (m := pyNext (.ref I)) (W.item i s _ _ lt st fun v s' pv st' mv => ?_)
    obtain ⟨p, hp, rfl⟩ := val i v pv
    have k1 := up mv k0
    have M1 : MSet P w s'.heap S L es ep t := M.stay (fun o e => mv.heap S o Sw e) fun q hq => tuM_keep (hk q (g.2.1 q hq)) k1
    have px : TuM P w s'.heap p.2 p.1 := tuM_keep (hk p (List.mem_of_getElem? hp)) k1
    refine wpAny_bind (m := holding [Value.ref p.1] (setAdd S (.ref p.1))) (wpAny_holding ?_)
    unfold setAdd
    refine wpAny_holding (wpAny_bind (wpAny_pyHash_tuple hu px (MSet.add (s := { s' with toks := s'.toks + (p.2.length + 1) }) M1 px hu (by have := g.1; omega) fun b h' L' es' ep' t' sb M2 c1 c2 => ?_)))
    have k2 : ∀ b o, h0.get? b = some o → h'.get? b = some o := fun b o e => (sb.2 b (fun z => by rw [z, new] at e; cases e)).trans (k1 b o e)
    refine wpAny_pure ⟨plainId_quiet F.plain_set_update_loop _, ih (i + 1) _ (by omega) lt (W.frame _ s' _ _ st' (Nat.le_add_right _ _) fun b hb o e => ?_) k2 ⟨L', es', ep', t', M2, hasM_next g hp c1 c2⟩ fun s2 L2 es2 ep2 t2 mv2 M3 g3 k3 => ?_⟩
    · exact (sb.2 b fun h : b = S => hS (h ▸ hb)).trans e
    · exact fin s2 L2 es2 ep2 t2 (Moved.trans W.gtrans ((mv.mono fun b hb => List.mem_cons_of_mem _ hb).then_heap (Nat.le_add_right _ _) fun b o hb e => (sb.2 b fun h : b = S => hb (h ▸ List.mem_cons_self)).trans e) mv2) M3 g3 k3
/-! ### a new set of a list; sorted -/
theorem initM {l : Addr} {its : Array Value} (ks : List EnM) {R : PySem.Fin → Shared → Prop} (hh : A.handled = none) (hS : s.heap.get? S = some { cls := .type "set", dict := none, data := .set #[] 0 (.fresh 0 0 (!w.params.followText "set-order")) })
    {h0 : Heap} (new : h0.get? S = none) (old : ∀ b o, h0.get? b = some o → s.heap.get? b = some o) (hlS : l ≠ S) (hl : s.heap.IsList l its) (hlz : l < s.heap.objs.size) (hSz : S < s.heap.objs.size) (hit : its.toList = ks.map fun p => Value.ref p.1) (few : ks.length ≤ 18) (hu : A.units + 3 < cLine)
    (hk : ∀ p ∈ ks, TuM P w h0 p.2 p.1)
    (hR : ∀ (h' : Heap) (tk : Nat) L es ep t, MSet P w h' S L es ep t → HasM ks ks.length L → (∀ b o, h0.get? b = some o → h'.get? b = some o) → R (.done (.ret .none)) { s with heap := h', toks := tk }) :
    wpAny (model P w) A (Builtin.«set.__init__» ⟨[.ref S, .ref l], []⟩) R E s := by
  have isz : its.size = ks.length := by rw [← Array.length_toList, hit, List.length_map]
  obtain ⟨⟨ocls, odict, odata, oslots⟩, hol, hcl, nl, hdl⟩ := hl
  simp only at hcl hdl
  subst hcl; subst hdl
  have ty : s.TypeIs (.ref S) "set" := ⟨_, hS, rfl⟩
  have s1 := F.sub_list_set
  have s2 := F.sub_list_frozenset
  have ne : (Value.type "list" == Value.type "dict") = false := by decide
  have hl1 : s.heap.IsList l its := ⟨_, hol, rfl, nl, rfl⟩
  unfold Builtin.«set.__init__» noKeywords Builtin.Frozenset.updateFrom
  generalize hPI : pyIter = PI
  wp_walk
  subst hPI
  refine wpAny_pyIter_list hl1 (wpAny_bind (wpAny_runValue ?_))
  have val : ∀ (i : Nat) (v : Value), its[i]? = some v → ∃ p, ks[i]? = some p ∧ v = .ref p.1 := fun i v hv => by
    rw [← Array.getElem?_toList, hit, List.getElem?_map] at hv
    cases e : ks[i]? with
    | none => rw [e] at hv; cases hv
    | some p => rw [e] at hv; exact ⟨p, rfl, (Option.some.inj hv).symm⟩
  have top : h0.get? s.heap.objs.size = none := by
    cases e : h0.get? s.heap.objs.size with
    | none => rfl
    | some o => exact absurd (Heap.lt_size (old _ o e)) (Nat.lt_irrefl _)
  refine fillM ((Walks.list (by simp [hh]) _ l (Nat.ne_of_lt hlz) its).toS) (by simp only [List.mem_cons, List.not_mem_nil, or_false, not_or]; exact ⟨Nat.ne_of_lt hSz, fun z => hlS z.symm⟩) ks isz few val h0 hk new
    (fun b hb => by rw [List.mem_singleton.mp hb]; exact top) (by have e : A.in1.units = A.units + 1 := rfl; omega) (its.size - 0) 0 _ (by omega) (Nat.zero_le _)
    ⟨⟨_, Heap.get?_push_size _ rfl, rfl, rfl⟩, (hl1.push _)⟩ (fun b o e => Heap.get?_push_of_some _ (old b o e)) ⟨[], #[], 0, _, mset_bare (Heap.get?_push_of_some _ hS), Nat.le_refl _, fun p hp => absurd hp List.not_mem_nil, fun j p hj => absurd hj (Nat.not_lt_zero _)⟩ ?_
  intro s' L es ep t mv M g k
  obtain ⟨h', g2, d', tk', os'⟩ := s'
  have eg : g2 = s.gens := mv.gens
  have ed : d' = s.drawn := mv.drawn
  have eo : os' = s.os := mv.os
  subst eg; subst ed; subst eo
  rw [isz] at g
  exact wpAny_pure (wpAny_pure (hR h' tk' L es ep t M g k))
theorem set_callM {l : Addr} {its : Array Value} (ks : List EnM) {Q : Value → Shared → Prop} (hh : A.handled = none) (hl : s.heap.IsList l its) (hit : its.toList = ks.map fun p => Value.ref p.1) (hk : ∀ p ∈ ks, TuM P w s.heap p.2 p.1) (few : ks.length ≤ 18) (hu : A.units + 10 < cLine)
    (h : ∀ (h' : Heap) (tk : Nat) L es ep t, MSet P w h' s.heap.objs.size L es ep t → HasM ks ks.length L → (∀ b o, s.heap.get? b = some o → h'.get? b = some o) → Q (.ref s.heap.objs.size) { s with heap := h', toks := tk }) :
    wpAny (model P w) A (call (.type "set") [.ref l]) Q E s := by
  obtain ⟨c, tl, hmro⟩ := F.called_set.mro
  have made := F.called_set.made
  have sub := F.called_set.sub
  have n1 := F.called_set.notType
  have n2 := F.called_set.canCreate
  have n3 := F.typeCall_set_1 (.ref l)
  refine wpAny_call (codeAny_of_tree ?_)
  show wpAny _ _ (callAny (.type "set") _) _ _ _
  refine wpAny_pure ⟨Code.quiet_builtin _ (by decide +kernel), codeAny_builtin F.entry_type_call ?_⟩
  rw [Around.under_plain (weight_type_call_type "set" [.ref l] []) rfl]
  repeat (any_goals (first | assumption | wp_step))
  generalize hb : s.heap.push { cls := .type "set", dict := none, data := .set #[] 0 (.fresh 0 0 (!w.params.followText "set-order")) } = hB
  refine codeAny_mono (code_set_led1 (.ref l) (E := E) (Q₁ := fun obj s₁ => obj = .ref s.heap.objs.size ∧ s₁ = { s with heap := hB }) ⟨rfl, by rw [← hb]⟩) fun r s₁ hr => ?_
  cases r with
  | error e => exact hr
  | ok fl =>
    cases fl with
    | ret obj =>
      obtain ⟨rfl, rfl⟩ := hr
      have hS : hB.get? s.heap.objs.size = some { cls := .type "set", dict := none, data := .set #[] 0 (.fresh 0 0 (!w.params.followText "set-order")) } := by rw [← hb]; exact Heap.get?_push_size _ rfl
      have hz : hB.objs.size = s.heap.objs.size + 1 := by rw [← hb]; exact Heap.size_push ..
      have up : ∀ b o, s.heap.get? b = some o → hB.get? b = some o := fun b o e => by rw [← hb]; exact Heap.get?_push_of_some _ e
      have ty : Shared.TypeIs { s with heap := hB } (.ref s.heap.objs.size) "set" := ⟨_, hS, rfl⟩
      have i1 := F.called_set.init.lookup
      have i2 := F.called_set.init.bind (.ref s.heap.objs.size)
      have lz : l < s.heap.objs.size := let ⟨o, ho, _⟩ := hl; Heap.lt_size ho
      have hl2 : hB.IsList l its := let ⟨o, ho, r⟩ := hl; ⟨o, up l o ho, r⟩
      have new : s.heap.get? s.heap.objs.size = none := by
        cases e : s.heap.get? s.heap.objs.size with
        | none => rfl
        | some o => exact absurd (Heap.lt_size e) (Nat.lt_irrefl _)
      repeat (any_goals (first | assumption | wp_step))
      refine codeAny_mono (codeAny_call_builtin (R := wants (fun r s₂ => r = .none ∧ ∃ h' tk L es ep t, s₂ = { s with heap := h', toks := tk } ∧ MSet P w h' s.heap.objs.size L es ep t ∧ HasM ks ks.length L ∧ ∀ b o, s.heap.get? b = some o → h'.get? b = some o) E) F.called_set.init.plain F.entry_set_init (check_set_init_1 ty ?_)) fun r₂ s₂ hr₂ => ?_
      · exact initM (s := { s with heap := hB }) ks (by simp [hh]) hS new up (Nat.ne_of_lt lz) hl2 (Nat.lt_of_lt_of_eq (Nat.lt_succ_of_lt lz) hz.symm) (Nat.lt_of_lt_of_eq (Nat.lt_succ_self _) hz.symm) hit few (by have e : A.in1.in1.units = A.units + 2 := rfl; omega) hk fun h' tk L es ep t M g k => ⟨rfl, h', tk, L, es, ep, t, rfl, M, g, k⟩
      · cases r₂ with
        | error e => exact hr₂
        | ok fl₂ =>
          cases fl₂ with
          | ret r =>
            obtain ⟨rfl, h', tk, L, es, ep, t, rfl, M, g, k⟩ := hr₂
            repeat (any_goals (first | assumption | wp_step))
            exact h _ _ _ _ _ _ M g k
          | _ => exact hr₂.elim
    | _ => exact hr.elim
/-- an item as the sort sees it -/
def tokK : L2.Key → Int ⊕ List Nat
  | .inl i => .inl i
  | .inr x => .inr x.cps.toList
abbrev tokL (k : List L2.Key) : List (Int ⊕ List Nat) := k.map tokK
def ltK (k k' : List L2.Key) : Bool := lexLt itemOrd (tokL k) (tokL k')
/-- ints and strs stand where sh says -/
def fitK (sh : Nat → Bool) : Nat → List L2.Key → Bool
  | _, [] => true
  | n, .inl _ :: r => !sh n && fitK sh (n + 1) r
  | n, .inr _ :: r => sh n && fitK sh (n + 1) r
theorem items_tok {sh : Nat → Bool} : ∀ {k : List L2.Key} {vs : List Value} {n : Nat}, ItemsAre (mixKind P w) k vs → fitK sh n k = true → tupItems sh n vs = some (tokL k)
  | [], _, _, .nil, _ => rfl
  | a :: k, _, n, .cons h1 h2, hf => by
    rcases keyIs_shape h1 with ⟨i, t, rfl, rfl⟩ | ⟨x, t, rfl, rfl⟩
    · obtain ⟨f1, f2⟩ := (Bool.and_eq_true _ _).mp (show (!sh n && fitK sh (n + 1) k) = true from hf)
      have f1 : sh n = false := by simpa using f1
      unfold tupItems
      rw [if_neg (by rw [f1]; exact Bool.false_ne_true), items_tok h2 f2]
      rfl
    · obtain ⟨f1, f2⟩ := (Bool.and_eq_true _ _).mp (show (sh n && fitK sh (n + 1) k) = true from hf)
      unfold tupItems
      rw [if_pos f1, items_tok h2 f2]
      rfl
theorem tuM_tok {sh : Nat → Bool} {h : Heap} {k : List L2.Key} {b : Addr} (hk : TuM P w h k b) (hf : fitK sh 0 k = true) : G.tupKeyC h sh (.ref b) = some (tokL k) := by
  obtain ⟨o, its, n, ho, hc, hd, hi⟩ := hk
  have isT : G.isTupObj h (.ref b) = true := by
    unfold G.isTupObj
    simp only [ho, hc]
    rfl
  unfold G.tupKeyC
  rw [if_pos isT]
  unfold tupKey
  simp only [ho, hd]
  exact items_tok hi hf
theorem tuM_first {sh : Nat → Bool} {h : Heap} {k : List L2.Key} {b : Addr} (hk : TuM P w h k b) (hf : fitK sh 0 k = true) (hn : k ≠ []) : ∃ f, TupOf h sh (.ref b) f := by
  obtain ⟨o, its, n, ho, hc, hd, hi⟩ := hk
  obtain ⟨vs⟩ := its
  simp only at hi hd
  cases hi with
  | nil => exact absurd rfl hn
  | @cons a v ks vs h1 h2 =>
    refine ⟨v, b, o, ⟨v :: vs⟩, n, rfl, ho, hc, hd, rfl, fun e => ?_, fun e => ?_⟩
    · rcases keyIs_shape h1 with ⟨i, t, rfl, rfl⟩ | ⟨x, t, rfl, rfl⟩
      · exact ⟨i, t, rfl⟩
      · have := ((Bool.and_eq_true _ _).mp (show (sh 0 && fitK sh 1 ks) = true from hf)).1
        rw [e] at this; cases this
    · rcases keyIs_shape h1 with ⟨i, t, rfl, rfl⟩ | ⟨x, t, rfl, rfl⟩
      · have := ((Bool.and_eq_true _ _).mp (show (!sh 0 && fitK sh 1 ks) = true from hf)).1
        rw [e] at this; cases this
      · exact ⟨x, t, rfl⟩
theorem tups_all {sh : Nat → Bool} {h : Heap} : ∀ vs : List Value, (∀ v ∈ vs, ∃ f, TupOf h sh v f) → ∃ fs, TupsOf h sh vs fs
  | [], _ => ⟨[], .nil⟩
  | v :: vs, hv => by
    obtain ⟨f, hf⟩ := hv v List.mem_cons_self
    obtain ⟨fs, hfs⟩ := tups_all vs fun u hu => hv u (List.mem_cons_of_mem _ hu)
    exact ⟨f :: fs, .cons hf hfs⟩
/-- a permutation of images is the image of a permutation -/
theorem perm_back {α β : Type} {f : α → β} {l m : List β} (h : l.Perm m) : ∀ L : List α, m = L.map f → ∃ L' : List α, L'.Perm L ∧ l = L'.map f := by
  induction h with
  | nil => intro L e; exact ⟨[], by rw [List.map_eq_nil_iff.mp e.symm], rfl⟩
  | cons x _ ih =>
    intro L e
    cases L with
    | nil => cases e
    | cons a L =>
      rw [List.map_cons] at e
      injection e with e1 e2
      obtain ⟨L', p, e3⟩ := ih L e2
      exact ⟨a :: L', p.cons a, by rw [List.map_cons, e1, e3]⟩
  | swap x y l =>
    intro L e
    match L, e with
    | a :: b :: L, e =>
      rw [List.map_cons, List.map_cons] at e
      injection e with e1 e2
      injection e2 with e2 e3
      exact ⟨b :: a :: L, List.Perm.swap _ _ _, by rw [List.map_cons, List.map_cons, e1, e2, e3]⟩
  | trans _ _ ih1 ih2 =>
    intro L e
    obtain ⟨L1, p1, e1⟩ := ih2 L e
    obtain ⟨L2, p2, e2⟩ := ih1 L1 e1
    exact ⟨L2, p2.trans p1, e2⟩
/-- sorted of the set -/
theorem sort_callM (M : MSet P w s.heap S L es ep t) (hh : A.handled = none) {sh : Nat → Bool} (fit : ∀ p ∈ L, fitK sh 0 p.2 = true ∧ p.2 ≠ []) {Q : Value → Shared → Prop}
    (hQ : ∀ s' p (out : Array Value) (c : Nat) (L' : List EnM), (∀ b o, s.heap.get? b = some o → s'.heap.get? b = some o) → s'.gens = s.gens → s'.os = s.os → s.heap.objs.size ≤ p → s'.heap.get? p = some (seqObj "list" out c) →
      out.toList = L'.map (fun q => Value.ref q.1) → L'.Perm L → L'.Pairwise (fun q r => ltK r.2 q.2 = false) → Q (.ref p) s') :
    wpAny (model P w) A (call (.builtin "sorted") [.ref S]) Q E s := by
  obtain ⟨o, ho, hex, hd⟩ := M.ob
  have l18 : L.length ≤ 18 := by rcases M.fit with z | z <;> omega
  refine Calls.call_function_entry kind_sorted plain_sorted entry_sorted (args_sorted1 _) ?_
  unfold Builtin.«sorted»
  refine wpAny_bind (m := checkCount "sorted" 1 1 _) (wpAny_pure ?_)
  refine wpAny_bind (collect_set (A := A.in1) hh ⟨o, ho, hex.1, hd⟩ M.fits (by rw [rows_size M.rows]; unfold scanBound; omega) M.tab.ris M.led fun s1 vs k1 hz g1 o1 pm => ?_)
  have img : es.toList.map (·.2) = L.map fun q => Value.ref q.1 := by
    rw [M.rows, List.map_map]
    rfl
  rw [img] at pm
  obtain ⟨L1, p1, rfl⟩ := perm_back pm L rfl
  have l1 : L1.length ≤ 18 := by rw [p1.length_eq]; exact l18
  have tu1 : ∀ q ∈ L1, TuM P w (s1.heap.push (seqObj "list" (L1.map fun q => Value.ref q.1).toArray 0)) q.2 q.1 := fun q hq => tuM_keep (M.tus q (p1.mem_iff.mp hq)) fun b u e => Heap.get?_push_of_some _ (k1 b u e)
  have ft1 : ∀ q ∈ L1, fitK sh 0 q.2 = true ∧ q.2 ≠ [] := fun q hq => fit q (p1.mem_iff.mp hq)
  refine wpAny_bind (wpAny_newList ?_ (by rw [sizeLine_eq, List.length_map]; omega))
  have at1 : (s1.heap.push (seqObj "list" (L1.map fun q => Value.ref q.1).toArray 0)).get? s1.heap.objs.size = some (seqObj "list" (L1.map fun q => Value.ref q.1).toArray 0) := Heap.get?_push_size _ rfl
  obtain ⟨fs, hfs⟩ := tups_all (sh := sh) (h := s1.heap.push (seqObj "list" (L1.map fun q => Value.ref q.1).toArray 0)) (L1.map fun q => Value.ref q.1) fun v hv => by
    obtain ⟨q, hq, rfl⟩ := List.mem_map.mp hv
    exact tuM_first (tu1 q hq) (ft1 q hq).1 (ft1 q hq).2
  have keys : ∀ v ∈ L1.map (fun q => Value.ref q.1), ∃ k, G.tupKeyC (s1.heap.push (seqObj "list" (L1.map fun q => Value.ref q.1).toArray 0)) sh v = some k := fun v hv => by
    obtain ⟨q, hq, rfl⟩ := List.mem_map.mp hv
    exact ⟨_, tuM_tok (tu1 q hq) (ft1 q hq).1⟩
  refine wpAny_bind (wpAny_holding (wpAny_call_entry slot_list_sort ⟨_, at1, rfl⟩ entry_list_sort (G.list_sort_tups (s := { s1 with heap := s1.heap.push (seqObj "list" (L1.map fun q => Value.ref q.1).toArray 0) }) at1 hfs keys (by rw [List.length_map, sizeLine_eq]; omega) fun st' a1 a2 _ => ⟨_, rfl, ?_⟩) (args_list_sort _)))
  generalize hv : (L1.map fun q => Value.ref q.1) = vs at *
  generalize harr : arrOf st' = arr at a1 a2 ⊢
  have zl : vs.length = L1.length := by rw [← hv, List.length_map]
  have az : arr.size = vs.length := by rw [a1.size_eq, pairsOf_size]
  have a1l : arr.toList.Perm (vs.zip vs) := by rw [← pairsOf_toList]; exact a1.toList
  have two : ∀ p ∈ arr.toList, p.1 = p.2 := fun p hp => (mem_zip_self (a1l.mem_iff.mp hp)).1
  have pl : (arr.map (·.2)).toList.Perm vs := by
    rw [Array.toList_map]
    have z := a1l.map Prod.snd
    rwa [List.map_snd_zip (Nat.le_refl _)] at z
  rw [← hv] at pl
  obtain ⟨L2, p2, e2⟩ := perm_back pl L1 rfl
  obtain ⟨c, hc⟩ := sortedHeap_at (vs := vs) (out := arr.map (·.2)) at1
  have z2 : arr.size = L2.length := by rw [az, zl, p2.length_eq]
  have key2 : ∀ (i : Nat) (h : i < L2.length), KK (G.tupKindC (s1.heap.push (seqObj "list" vs.toArray 0)) sh) arr i = tokL (L2[i]).2 := fun i h => by
    have hi : i < arr.size := by omega
    have ea : arr[i]? = some arr[i] := Array.getElem?_eq_getElem hi
    have e3 : (arr.map (·.2)).toList[i]? = some (arr[i]).2 := by rw [Array.getElem?_toList, Array.getElem?_map, ea]; rfl
    rw [e2, List.getElem?_map, List.getElem?_eq_getElem h] at e3
    have e4 : (arr[i]).2 = Value.ref (L2[i]).1 := (Option.some.inj e3).symm
    have e5 : (arr[i]).1 = Value.ref (L2[i]).1 := (two _ (by rw [← Array.getElem?_toList] at ea; exact List.mem_of_getElem? ea)).trans e4
    unfold KK
    rw [ea]
    have q1 : L2[i] ∈ L1 := p2.mem_iff.mp (List.getElem_mem h)
    show (G.tupKeyC _ sh (arr[i]).1).getD [] = _
    rw [e5, tuM_tok (tu1 _ q1) (ft1 _ q1).1]
    rfl
  refine wpAny_pure ⟨_, rfl, hQ _ s1.heap.objs.size (arr.map (·.2)) c L2 (fun b u e => ?_) g1 o1 hz hc e2 (p2.trans p1) ?_⟩
  · have q := k1 b u e
    have lt := Heap.lt_size q
    show (sortedHeap (s1.heap.push (seqObj "list" vs.toArray 0)) s1.heap.objs.size vs (arr.map (·.2))).get? b = some u
    rw [sortedHeap_old (Nat.ne_of_lt lt) (by rw [size_push']; exact Nat.lt_succ_of_lt lt)]
    exact Heap.get?_push_of_some _ q
  · refine List.pairwise_iff_getElem.mpr fun i j hi hj hij => ?_
    have := a2 i j (Nat.le_of_lt hij) (by rw [pairsOf_size]; omega)
    rw [key2 i hi, key2 j hj] at this
    exact this
end
end Vx

namespace Vx
open PySem PySem.Spec PyProof.Rows L2

/-! ### sorted(set(xs)), xs a list of few tuples of ints and strs of one shape -/
theorem items_kv {P : Program} {w : World} : ∀ {k : List L2.Key} {us : List Value}, Vals (k.map kV) us → ItemsAre (mixKind P w) k us
  | [], _, .nil => .nil
  | .inl i :: k, _, .cons r t => by
    obtain ⟨tk, rfl⟩ := r
    exact .cons (mixKind_int P w i tk) (items_kv t)
  | .inr x :: k, _, .cons r t => by
    obtain ⟨tk, rfl⟩ := r
    exact .cons (mixKind_str P w x tk) (items_kv t)
theorem refs_en : ∀ {ks : List EnM} {us : List Value}, Vals (ks.map fun p => V.ref p.1) us → us = ks.map fun p => Value.ref p.1
  | [], _, .nil => rfl
  | p :: ks, _, .cons r t => by
    cases r
    exact congrArg (Value.ref p.1 :: ·) (refs_en t)
theorem en_refs : ∀ ks : List EnM, Vals (ks.map fun p => V.ref p.1) (ks.map fun p => Value.ref p.1)
  | [] => .nil
  | p :: ks => .cons rfl (en_refs ks)
theorem Inv_tuM {X : Cx} {pins : List (Addr × Obj)} {σ : L2.St} {H : Hp} {s : Shared} {b : Addr} {k : List L2.Key} (I : Inv X pins σ H s) (h : SqT X.K H b (k.map kV)) : TuM X.prog X.w s.heap k b := by
  obtain ⟨its, r, ⟨o, ho, hc, n, hd⟩, _⟩ := I.tuple h
  exact ⟨o, its.toArray, n, ho, hc, hd, by simpa using items_kv r⟩
def tSortSetT (K : PySem.W.Frag) (ta : TE) : TE := fun σ H Q => ta σ H fun x H1 => ∃ (l : Addr) (ps : List EnM) (sh : Nat → Bool), x = .ref l ∧ SqL K H1 l (ps.map fun p => V.ref p.1) ∧ (∀ p ∈ ps, SqT K H1 p.1 (p.2.map kV)) ∧ ps.length ≤ 18 ∧ (∀ p ∈ ps, fitK sh 0 p.2 = true ∧ p.2 ≠ []) ∧
  ∀ (L : List EnM) p, (L.map Prod.snd).Nodup → (∀ q ∈ L, q ∈ ps) → (∀ q ∈ ps, q.2 ∈ L.map Prod.snd) → L.Pairwise (fun q r => ltK r.2 q.2 = false) → H1 p = none → Q (.ref p) (upd H1 p (.lst (L.map fun q => V.ref q.1)))
theorem pe_sortSetT {X : Cx} {a : Expr} {ta : TE} {p p2 q pos : Pos} (hc : X.calm = true) (hu : X.A.units + 64 < cLine) (hg : Gl X "sorted") (hm : X.mg "sorted" = none) (hg2 : Gl X "set") (hm2 : X.mg "set" = none) (ha : PE X a ta)
    (na : starEach [a] X.env = (false, eval a X.env) :: starEach [] X.env := by rfl) : PE X (.Call (.Name "sorted" p) [.Call (.Name "set" p2) [a] [] q] [] pos) (tSortSetT X.K ta) := by
  refine ⟨fun pins s σ H Q I h => ?_⟩
  refine Call_ (ld_blt I hg hm (show bootBuiltins "sorted" = some (.builtin "sorted") by decide +kernel) ?_)
  refine PyProof.Rows.callWith_builtin1 (PyProof.Rows.args_cons ?_ rfl) rfl rfl
  refine Call_ (ld_blt I hg2 hm2 boot_set ?_)
  refine PyProof.Rows.callWith_type1 (PyProof.Rows.args_cons (thn (ha.run pins s σ H _ I h) fun v s1 ⟨x, H1, I1, r1, q1⟩ => PyProof.Rows.args_nil ?_) na) na rfl
  obtain ⟨l, ps, sh, rfl, hq, hk, h18, hf, q1⟩ := q1
  cases r1
  obtain ⟨its, r, pl, hz⟩ := I1.list hq
  refine set_callM (P := X.prog) (w := X.w) ps (I1.ok.hd hc) pl.isList (by simpa using refs_en r) (fun p hp => Inv_tuM I1 (hk p hp)) h18 (by omega) fun h' tk L es ep t M g k => ?_
  refine PyProof.Rows.args_nil ?_
  have I2 : Inv X pins σ H1 { s1 with heap := h', toks := tk } := I1.kept fun b o e => k b o e
  generalize hs2 : ({ s1 with heap := h', toks := tk } : Shared) = s2 at I2
  have M2 : MSet X.prog X.w s2.heap s1.heap.objs.size L es ep t := by rw [← hs2]; exact M
  obtain ⟨g1, g2, g3⟩ := g
  have all : ∀ q ∈ ps, q.2 ∈ L.map Prod.snd := fun q hq => by
    obtain ⟨j, hj, e⟩ := List.getElem_of_mem hq
    exact g3 j q hj (by rw [List.getElem?_eq_getElem hj, e])
  refine sort_callM M2 (I1.ok.hd hc) (sh := sh) (fun q hq => hf q (g2 q hq)) fun s' p out c L' kk gg oo hp hg hout pm pw => ?_
  have l18 : L'.length ≤ 18 := by rw [pm.length_eq]; omega
  have hlen : (L'.map fun q => V.ref q.1).length ≤ sizeLine := by rw [List.length_map, sizeLine_eq]; omega
  have hn : H1 p = none := I2.hok.fresh hp
  have hv : Vals (L'.map fun q => V.ref q.1) out.toList := by rw [hout]; exact en_refs L'
  have J : Inv X pins σ (upd H1 p (.lst (L'.map fun q => V.ref q.1))) { s2 with heap := s'.heap, gens := s'.gens, drawn := s'.drawn, toks := s'.toks } :=
    I2.call (ch := []) (Un.laid kk hp hn) (I2.hok.laid kk hp ⟨hlen, out.toList, c, hv, hg⟩) (by rw [gg]; exact I2.bare) (fun _ z => nomatch z)
  have e : s' = { s2 with heap := s'.heap, gens := s'.gens, drawn := s'.drawn, toks := s'.toks } := by
    cases s'
    cases s2
    cases oo
    rfl
  rw [e]
  exact ⟨.ref p, _, J, rfl, q1 L' p ((pm.map Prod.snd).nodup_iff.mpr M2.uni) (fun q hq => g2 q (pm.mem_iff.mp hq)) (fun q hq => (pm.map Prod.snd).mem_iff.mpr (all q hq)) pw hn⟩
/-! data -/
def itemK : D → Option L2.Key
  | .int i => some (.inl i)
  | .str x => some (.inr x)
  | _ => none
def itemsK : List D → Option (List L2.Key)
  | [] => some []
  | d :: ds => match itemK d, itemsK ds with
    | some k, some ks => some (k :: ks)
    | _, _ => none
def tkeyD : D → Option (List L2.Key)
  | .tup ds => itemsK ds
  | _ => none
def keysD : List D → Option (List (List L2.Key))
  | [] => some []
  | d :: ds => match tkeyD d, keysD ds with
    | some k, some ks => some (k :: ks)
    | _, _ => none
def unK : L2.Key → D
  | .inl i => .int i
  | .inr x => .str x
def tupK (k : List L2.Key) : D := .tup (k.map unK)
theorem itemsK_un : ∀ {ds : List D} {k : List L2.Key}, itemsK ds = some k → ds = k.map unK
  | [], k, e => by cases e; rfl
  | d :: ds, k, e => by
    unfold itemsK at e
    cases e1 : itemK d with
    | none => rw [e1] at e; cases e
    | some a =>
      cases e2 : itemsK ds with
      | none => rw [e1, e2] at e; cases e
      | some ks =>
        rw [e1, e2] at e
        cases e
        have : d = unK a := by
          cases d with
          | int i => cases e1; rfl
          | str x => cases e1; rfl
          | _ => cases e1
        rw [List.map_cons, ← this, ← itemsK_un e2]
theorem tkeyD_un {d : D} {k : List L2.Key} (e : tkeyD d = some k) : d = tupK k := by
  cases d with
  | tup ds => exact congrArg D.tup (itemsK_un e)
  | _ => cases e
theorem keysD_un : ∀ {ds : List D} {ks : List (List L2.Key)}, keysD ds = some ks → ds = ks.map tupK
  | [], k, e => by cases e; rfl
  | d :: ds, k, e => by
    unfold keysD at e
    cases e1 : tkeyD d with
    | none => rw [e1] at e; cases e
    | some a =>
      cases e2 : keysD ds with
      | none => rw [e1, e2] at e; cases e
      | some ks =>
        rw [e1, e2] at e
        cases e
        rw [List.map_cons, ← tkeyD_un e1, ← keysD_un e2]
theorem repL_items {K : PySem.W.Frag} {O : Own} {H : Hp} : ∀ {k : List L2.Key} {xs : List V}, RepL K O H (k.map unK) xs → xs = k.map kV
  | [], xs, h => repL_nil.mp h
  | .inl i :: k, xs, h => by
    obtain ⟨y, ys, rfl, h1, h2⟩ := repL_cons.mp h
    rw [rep_int.mp h1, repL_items h2]
    rfl
  | .inr x :: k, xs, h => by
    obtain ⟨y, ys, rfl, h1, h2⟩ := repL_cons.mp h
    rw [rep_str.mp h1, repL_items h2]
    rfl
theorem rep_en {K : PySem.W.Frag} {O : Own} {H : Hp} : ∀ {ks : List (List L2.Key)} {xs : List V}, RepL K O H (ks.map tupK) xs → ∃ ps : List EnM, xs = ps.map (fun p => V.ref p.1) ∧ ps.map Prod.snd = ks ∧ ∀ p ∈ ps, Rep K O H (tupK p.2) (.ref p.1) ∧ SqT K H p.1 (p.2.map kV)
  | [], xs, h => ⟨[], repL_nil.mp h, rfl, fun p hp => absurd hp List.not_mem_nil⟩
  | k :: ks, xs, h => by
    obtain ⟨y, ys, rfl, h1, h2⟩ := repL_cons.mp h
    obtain ⟨ps, rfl, e2, h3⟩ := rep_en h2
    have h1' := h1
    obtain ⟨b, zs, rfl, t, rr⟩ := rep_tup.mp (show Rep K O H (.tup (k.map unK)) y from h1)
    have := repL_items rr
    subst this
    refine ⟨(b, k) :: ps, rfl, by rw [List.map_cons, e2], fun p hp => ?_⟩
    rcases List.mem_cons.mp hp with rfl | hp
    · exact ⟨h1', t.sq⟩
    · exact h3 p hp
theorem repL_refs {K : PySem.W.Frag} {O : Own} {H : Hp} : ∀ {L : List EnM}, (∀ p ∈ L, Rep K O H (tupK p.2) (.ref p.1)) → RepL K O H ((L.map Prod.snd).map tupK) (L.map fun q => V.ref q.1)
  | [], _ => repL_nil.mpr rfl
  | p :: L, h => repL_cons.mpr ⟨_, _, rfl, h p List.mem_cons_self, repL_refs fun q hq => h q (List.mem_cons_of_mem _ hq)⟩
def fSortSetT : D → (SV → Prop) → Prop
  | .lst ds, k => match keysD ds with
    | some ks => ks.length ≤ 18 ∧ (∃ sh, ∀ x ∈ ks, fitK sh 0 x = true ∧ x ≠ []) ∧ ∀ ms : List (List L2.Key), ms.Nodup → (∀ x, x ∈ ms ↔ x ∈ ks) → ms.Pairwise (fun a b => ltK b a = false) → k (.ow (ms.map tupK))
    | none => False
  | _, _ => False
def vSortSetT (p : PEv) : PEv := fun ρ Q W => p ρ (fun sv r => fSortSetT sv.fz fun sv2 => Q sv2 r) W
theorem fSortSetT_mono {d : D} {k k' : SV → Prop} (hk : ∀ sv, k sv → k' sv) (h : fSortSetT d k) : fSortSetT d k' := by
  unfold fSortSetT at h ⊢
  split at h
  · split at h
    · exact ⟨h.1, h.2.1, fun m h1 h2 h3 => hk _ (h.2.2 m h1 h2 h3)⟩
    · exact h.elim
  · exact h.elim
theorem ve_sortSetT {X : Cx} {G : Gh} {a : Expr} {pa : PEv} {p p2 q pos : Pos} (hc : X.calm = true) (hu : X.A.units + 64 < cLine) (hg : Gl X "sorted") (hm : X.mg "sorted" = none) (hg2 : Gl X "set") (hm2 : X.mg "set" = none) (ha : VE X G a pa)
    (na : starEach [a] X.env = (false, eval a X.env) :: starEach [] X.env := by rfl) : VE X G (.Call (.Name "sorted" p) [.Call (.Name "set" p2) [a] [] q] [] pos) (vSortSetT pa) := by
  refine ⟨fun ρ Q Q' W W' hQ hW z => ha.mono ρ _ _ _ _ (fun sv r z => fSortSetT_mono (fun sv2 z => hQ _ _ z) z) hW z, fun We tk => (pe_sortSetT hc hu hg hm hg2 hm2 (ha.run We tk) na).weak fun σ H Q ⟨hs, ρ, O, st, z⟩ => ⟨hs, ρ, O, st, ha.mono ρ _ _ _ _ (fun sv r z v H' O' st' rv => ?_) (fun _ _ _ w => w) z⟩⟩
  obtain ⟨O2, st2, _, r2⟩ := ResR.freeze st' rv
  generalize sv.fz = d at r2 z
  unfold fSortSetT at z
  split at z
  · split at z
    · rename_i ds k ks e
      obtain ⟨b, ys, rfl, t, rr⟩ := rep_lst.mp r2
      rw [keysD_un e] at rr
      obtain ⟨ps, rfl, e2, hps⟩ := rep_en rr
      obtain ⟨z1, ⟨sh, z2⟩, z3⟩ := z
      have mem : ∀ p ∈ ps, p.2 ∈ ks := fun p hp => by rw [← e2]; exact List.mem_map.mpr ⟨p, hp, rfl⟩
      refine ⟨b, ps, sh, rfl, t.sq, fun p hp => (hps p hp).2, by rw [← List.length_map (f := Prod.snd), e2]; exact z1, fun p hp => z2 _ (mem p hp), fun L p h1 h2 h3 h4 hp => ?_⟩
      obtain ⟨st3, r3⟩ := st2.resLst (ds := (L.map Prod.snd).map tupK) hp (repL_refs fun q hq => (hps q (h2 q hq)).1)
      refine z3 (L.map Prod.snd) h1 (fun x => ⟨fun hx => ?_, fun hx => ?_⟩) (List.pairwise_map.mpr h4) _ _ _ st3 r3
      · obtain ⟨q, hq, rfl⟩ := List.mem_map.mp hx
        exact mem q (h2 q hq)
      · rw [← e2] at hx
        obtain ⟨q, hq, rfl⟩ := List.mem_map.mp hx
        exact h3 q hq
    · exact z.elim
  · exact z.elim
theorem vSortSetT_sh {p : PEv} {ρ : Env} {Q : QV} {W : WxV} : vSortSetT p ρ Q W = p ρ (fun sv r => fzK sv fun d => fSortSetT d fun sv2 => Q sv2 r) W := rfl
end Vx

namespace Q9
open PySem PySem.Spec PyProof.Rows L2 Vx
def top (i : Nat) : Stmt := PySem.Challenge.pw_middlegauges_k09_forced_bounds.main.body.getD i (.Pass ⟨0, 0, 0, 0⟩)
abbrev s_is_integer : Stmt := top 8
abbrev s_fits_way : Stmt := top 9
abbrev s_fits_gauge : Stmt := top 10
abbrev s_fits_bound : Stmt := top 11
abbrev s_fits_two_gauges : Stmt := top 12
abbrev s_fits_rule : Stmt := top 13
abbrev s_need_gauges : Stmt := top 14
abbrev s_need_bound : Stmt := top 15
abbrev s_need_rule : Stmt := top 16
abbrev s_side_of : Stmt := top 18
abbrev s_level_of : Stmt := top 19
abbrev s_bound_at : Stmt := top 20
abbrev s_links_of : Stmt := top 21
abbrev s_gates_of : Stmt := top 22
abbrev s_forced_by : Stmt := top 23
abbrev s_forced : Stmt := top 24
abbrev s__law_bag : Stmt := top 26
abbrev s__law_draw : Stmt := top 27
abbrev s__law_number : Stmt := top 28
abbrev s__law_way : Stmt := top 29
abbrev s__law_mark : Stmt := top 30
abbrev s__law_two : Stmt := top 31
abbrev s__law_term : Stmt := top 32
abbrev s__law_contrary : Stmt := top 33
abbrev s__law_oppose : Stmt := top 34
abbrev s__law_forced : Stmt := top 35
abbrev s__law_beside : Stmt := top 36
abbrev s__law_far : Stmt := top 37
abbrev s_law : Stmt := top 38
def b_is_integer_0 : PSv := (vsRet (vAndE (vUn (fIsi .int) (.rd 0)) (vNotE (vUn (fIsi .bool) (.rd 0)))))
theorem ub_is_integer_0 {o : Option SV} {ρ : Vx.Env} {E : VEnds} : b_is_integer_0 (o :: ρ) E = (vsRet (vAndE (vUn (fIsi .int) (.rd 0)) (vNotE (vUn (fIsi .bool) (.rd 0))))) (o :: ρ) E := rfl
def d_is_integer : PFn := fnRun 1 1
  b_is_integer_0
theorem ud_is_integer {args : List SV} {Q : QV} {W : WxV} : d_is_integer args Q W = (args.length = 1 ∧ b_is_integer_0 (startV 1 args) { nx := fun r => Q (.sh .non) r, rt := Q, ex := W }) := rfl
def b_fits_way_0 : PSv := (vsRet (vAndE (vUn (fIsi .str) (.rd 0)) (vBin fIn (.rd 0) (.val (vC (.tup [.str "least", .str "most"]))))))
theorem ub_fits_way_0 {o : Option SV} {ρ : Vx.Env} {E : VEnds} : b_fits_way_0 (o :: ρ) E = (vsRet (vAndE (vUn (fIsi .str) (.rd 0)) (vBin fIn (.rd 0) (.val (vC (.tup [.str "least", .str "most"])))))) (o :: ρ) E := rfl
def d_fits_way : PFn := fnRun 1 1
  b_fits_way_0
theorem ud_fits_way {args : List SV} {Q : QV} {W : WxV} : d_fits_way args Q W = (args.length = 1 ∧ b_fits_way_0 (startV 1 args) { nx := fun r => Q (.sh .non) r, rt := Q, ex := W }) := rfl
def b_fits_gauge_0 : PSv := (vsRet (vAndE (vCall d_is_integer [(.rd 1)]) (vChain fLe fLt (.val (vC (.int 0))) (.rd 1) (.rd 0))))
theorem ub_fits_gauge_0 {o : Option SV} {ρ : Vx.Env} {E : VEnds} : b_fits_gauge_0 (o :: ρ) E = (vsRet (vAndE (vCall d_is_integer [(.rd 1)]) (vChain fLe fLt (.val (vC (.int 0))) (.rd 1) (.rd 0)))) (o :: ρ) E := rfl
def d_fits_gauge : PFn := fnRun 2 2
  b_fits_gauge_0
theorem ud_fits_gauge {args : List SV} {Q : QV} {W : WxV} : d_fits_gauge args Q W = (args.length = 2 ∧ b_fits_gauge_0 (startV 2 args) { nx := fun r => Q (.sh .non) r, rt := Q, ex := W }) := rfl
def b_fits_bound_0 : PSv := (vsRet (vAndE (vCall d_fits_gauge [(.rd 0), (.val (vBin fIx (.rd 1) (.val (vC (.int 0)))))]) (vAndE (vCall d_fits_way [(.val (vBin fIx (.rd 1) (.val (vC (.int 1)))))]) (vCall d_is_integer [(.val (vBin fIx (.rd 1) (.val (vC (.int 2)))))]))))
theorem ub_fits_bound_0 {o : Option SV} {ρ : Vx.Env} {E : VEnds} : b_fits_bound_0 (o :: ρ) E = (vsRet (vAndE (vCall d_fits_gauge [(.rd 0), (.val (vBin fIx (.rd 1) (.val (vC (.int 0)))))]) (vAndE (vCall d_fits_way [(.val (vBin fIx (.rd 1) (.val (vC (.int 1)))))]) (vCall d_is_integer [(.val (vBin fIx (.rd 1) (.val (vC (.int 2)))))])))) (o :: ρ) E := rfl
def b_fits_bound_1 : PSv := (vsSeq (vsIf (vOrT (vNot (vTru (.val (vUn (fIsi .tuple) (.rd 1))))) (vTest (vBin fNe (.val (vCB fLen [(.rd 1)])) (.val (vC (.int 3))))))
  (vsRet (vC (.bl false)))
  vsNext) b_fits_bound_0)
theorem ub_fits_bound_1 {o : Option SV} {ρ : Vx.Env} {E : VEnds} : b_fits_bound_1 (o :: ρ) E = (vsSeq (vsIf (vOrT (vNot (vTru (.val (vUn (fIsi .tuple) (.rd 1))))) (vTest (vBin fNe (.val (vCB fLen [(.rd 1)])) (.val (vC (.int 3))))))
  (vsRet (vC (.bl false)))
  vsNext) b_fits_bound_0) (o :: ρ) E := rfl
def d_fits_bound : PFn := fnRun 2 2
  b_fits_bound_1
theorem ud_fits_bound {args : List SV} {Q : QV} {W : WxV} : d_fits_bound args Q W = (args.length = 2 ∧ b_fits_bound_1 (startV 2 args) { nx := fun r => Q (.sh .non) r, rt := Q, ex := W }) := rfl
def b_fits_two_gauges_0 : PSv := (vsRet (vBin fNe (.val (vBin fIx (.rd 1) (.val (vC (.int 1))))) (.val (vBin fIx (.rd 1) (.val (vC (.int 2)))))))
theorem ub_fits_two_gauges_0 {o : Option SV} {ρ : Vx.Env} {E : VEnds} : b_fits_two_gauges_0 (o :: ρ) E = (vsRet (vBin fNe (.val (vBin fIx (.rd 1) (.val (vC (.int 1))))) (.val (vBin fIx (.rd 1) (.val (vC (.int 2))))))) (o :: ρ) E := rfl
def b_fits_two_gauges_1 : PSv := (vsSeq (vsIf (vOrT (vNot (vTru (.val (vCall d_fits_gauge [(.rd 0), (.val (vBin fIx (.rd 1) (.val (vC (.int 1)))))])))) (vNot (vTru (.val (vCall d_fits_gauge [(.rd 0), (.val (vBin fIx (.rd 1) (.val (vC (.int 2)))))])))))
  (vsRet (vC (.bl false)))
  vsNext) b_fits_two_gauges_0)
theorem ub_fits_two_gauges_1 {o : Option SV} {ρ : Vx.Env} {E : VEnds} : b_fits_two_gauges_1 (o :: ρ) E = (vsSeq (vsIf (vOrT (vNot (vTru (.val (vCall d_fits_gauge [(.rd 0), (.val (vBin fIx (.rd 1) (.val (vC (.int 1)))))])))) (vNot (vTru (.val (vCall d_fits_gauge [(.rd 0), (.val (vBin fIx (.rd 1) (.val (vC (.int 2)))))])))))
  (vsRet (vC (.bl false)))
  vsNext) b_fits_two_gauges_0) (o :: ρ) E := rfl
def d_fits_two_gauges : PFn := fnRun 2 2
  b_fits_two_gauges_1
theorem ud_fits_two_gauges {args : List SV} {Q : QV} {W : WxV} : d_fits_two_gauges args Q W = (args.length = 2 ∧ b_fits_two_gauges_1 (startV 2 args) { nx := fun r => Q (.sh .non) r, rt := Q, ex := W }) := rfl
def b_fits_rule_0 : PSv := (vsRet (vAndE (vCall d_fits_way [(.val (vBin fIx (.rd 1) (.val (vC (.int 3)))))]) (vCall d_is_integer [(.val (vBin fIx (.rd 1) (.val (vC (.int 4)))))])))
theorem ub_fits_rule_0 {o : Option SV} {ρ : Vx.Env} {E : VEnds} : b_fits_rule_0 (o :: ρ) E = (vsRet (vAndE (vCall d_fits_way [(.val (vBin fIx (.rd 1) (.val (vC (.int 3)))))]) (vCall d_is_integer [(.val (vBin fIx (.rd 1) (.val (vC (.int 4)))))]))) (o :: ρ) E := rfl
def b_fits_rule_1 : PSv := (vsSeq (vsIf (vTest (vBin fEq (.rd 2) (.val (vC (.str "either")))))
  (vsRet (vAndE (vBin fEq (.val (vCB fLen [(.rd 1)])) (.val (vC (.int 3)))) (vAndE (vCall d_fits_bound [(.rd 0), (.val (vBin fIx (.rd 1) (.val (vC (.int 1)))))]) (vCall d_fits_bound [(.rd 0), (.val (vBin fIx (.rd 1) (.val (vC (.int 2)))))]))))
  vsNext) (vsRet (vC (.bl false))))
theorem ub_fits_rule_1 {o : Option SV} {ρ : Vx.Env} {E : VEnds} : b_fits_rule_1 (o :: ρ) E = (vsSeq (vsIf (vTest (vBin fEq (.rd 2) (.val (vC (.str "either")))))
  (vsRet (vAndE (vBin fEq (.val (vCB fLen [(.rd 1)])) (.val (vC (.int 3)))) (vAndE (vCall d_fits_bound [(.rd 0), (.val (vBin fIx (.rd 1) (.val (vC (.int 1)))))]) (vCall d_fits_bound [(.rd 0), (.val (vBin fIx (.rd 1) (.val (vC (.int 2)))))]))))
  vsNext) (vsRet (vC (.bl false)))) (o :: ρ) E := rfl
def b_fits_rule_2 : PSv := (vsSeq (vsIf (vTest (vBin fEq (.rd 2) (.val (vC (.str "sum")))))
  (vsSeq (vsIf (vOrT (vTest (vBin fNe (.val (vCB fLen [(.rd 1)])) (.val (vC (.int 5))))) (vOrT (vNot (vTru (.val (vCall d_fits_two_gauges [(.rd 0), (.rd 1)])))) (vTest (vBin fGt (.val (vBin fIx (.rd 1) (.val (vC (.int 1))))) (.val (vBin fIx (.rd 1) (.val (vC (.int 2)))))))))
  (vsRet (vC (.bl false)))
  vsNext) b_fits_rule_0)
  vsNext) b_fits_rule_1)
theorem ub_fits_rule_2 {o : Option SV} {ρ : Vx.Env} {E : VEnds} : b_fits_rule_2 (o :: ρ) E = (vsSeq (vsIf (vTest (vBin fEq (.rd 2) (.val (vC (.str "sum")))))
  (vsSeq (vsIf (vOrT (vTest (vBin fNe (.val (vCB fLen [(.rd 1)])) (.val (vC (.int 5))))) (vOrT (vNot (vTru (.val (vCall d_fits_two_gauges [(.rd 0), (.rd 1)])))) (vTest (vBin fGt (.val (vBin fIx (.rd 1) (.val (vC (.int 1))))) (.val (vBin fIx (.rd 1) (.val (vC (.int 2)))))))))
  (vsRet (vC (.bl false)))
  vsNext) b_fits_rule_0)
  vsNext) b_fits_rule_1) (o :: ρ) E := rfl
def b_fits_rule_3 : PSv := (vsSeq (vsIf (vTest (vBin fEq (.rd 2) (.val (vC (.str "apart")))))
  (vsRet (vAndE (vBin fEq (.val (vCB fLen [(.rd 1)])) (.val (vC (.int 4)))) (vAndE (vCall d_fits_two_gauges [(.rd 0), (.rd 1)]) (vCall d_is_integer [(.val (vBin fIx (.rd 1) (.val (vC (.int 3)))))]))))
  vsNext) b_fits_rule_2)
theorem ub_fits_rule_3 {o : Option SV} {ρ : Vx.Env} {E : VEnds} : b_fits_rule_3 (o :: ρ) E = (vsSeq (vsIf (vTest (vBin fEq (.rd 2) (.val (vC (.str "apart")))))
  (vsRet (vAndE (vBin fEq (.val (vCB fLen [(.rd 1)])) (.val (vC (.int 4)))) (vAndE (vCall d_fits_two_gauges [(.rd 0), (.rd 1)]) (vCall d_is_integer [(.val (vBin fIx (.rd 1) (.val (vC (.int 3)))))]))))
  vsNext) b_fits_rule_2) (o :: ρ) E := rfl
def b_fits_rule_4 : PSv := (vsSeq (vsIf (vTest (vBin fEq (.rd 2) (.val (vC (.str "bound")))))
  (vsRet (vAndE (vBin fEq (.val (vCB fLen [(.rd 1)])) (.val (vC (.int 2)))) (vCall d_fits_bound [(.rd 0), (.val (vBin fIx (.rd 1) (.val (vC (.int 1)))))])))
  vsNext) b_fits_rule_3)
theorem ub_fits_rule_4 {o : Option SV} {ρ : Vx.Env} {E : VEnds} : b_fits_rule_4 (o :: ρ) E = (vsSeq (vsIf (vTest (vBin fEq (.rd 2) (.val (vC (.str "bound")))))
  (vsRet (vAndE (vBin fEq (.val (vCB fLen [(.rd 1)])) (.val (vC (.int 2)))) (vCall d_fits_bound [(.rd 0), (.val (vBin fIx (.rd 1) (.val (vC (.int 1)))))])))
  vsNext) b_fits_rule_3) (o :: ρ) E := rfl
def b_fits_rule_5 : PSv := (vsSeq (vsAsg (vBin fIx (.rd 1) (.val (vC (.int 0)))) (vgName 2)) b_fits_rule_4)
theorem ub_fits_rule_5 {o : Option SV} {ρ : Vx.Env} {E : VEnds} : b_fits_rule_5 (o :: ρ) E = (vsSeq (vsAsg (vBin fIx (.rd 1) (.val (vC (.int 0)))) (vgName 2)) b_fits_rule_4) (o :: ρ) E := rfl
def b_fits_rule_6 : PSv := (vsSeq (vsIf (vOrT (vNot (vTru (.val (vUn (fIsi .tuple) (.rd 1))))) (vOrT (vTest (vBin fEq (.rd 1) (.val (vTup [])))) (vNot (vTru (.val (vUn (fIsi .str) (.val (vBin fIx (.rd 1) (.val (vC (.int 0)))))))))))
  (vsRet (vC (.bl false)))
  vsNext) b_fits_rule_5)
theorem ub_fits_rule_6 {o : Option SV} {ρ : Vx.Env} {E : VEnds} : b_fits_rule_6 (o :: ρ) E = (vsSeq (vsIf (vOrT (vNot (vTru (.val (vUn (fIsi .tuple) (.rd 1))))) (vOrT (vTest (vBin fEq (.rd 1) (.val (vTup [])))) (vNot (vTru (.val (vUn (fIsi .str) (.val (vBin fIx (.rd 1) (.val (vC (.int 0)))))))))))
  (vsRet (vC (.bl false)))
  vsNext) b_fits_rule_5) (o :: ρ) E := rfl
def d_fits_rule : PFn := fnRun 2 3
  b_fits_rule_6
theorem ud_fits_rule {args : List SV} {Q : QV} {W : WxV} : d_fits_rule args Q W = (args.length = 2 ∧ b_fits_rule_6 (startV 3 args) { nx := fun r => Q (.sh .non) r, rt := Q, ex := W }) := rfl
def b_need_gauges_0 : PSv := (vsIf (vOrT (vNot (vTru (.val (vCall d_is_integer [(.rd 0)])))) (vNot (vTest (vChain fLe fLe (.val (vC (.int 1))) (.rd 0) (.val (vC (.int 5)))))))
  (vsRaise "InvalidCount")
  vsNext)
theorem ub_need_gauges_0 {o : Option SV} {ρ : Vx.Env} {E : VEnds} : b_need_gauges_0 (o :: ρ) E = (vsIf (vOrT (vNot (vTru (.val (vCall d_is_integer [(.rd 0)])))) (vNot (vTest (vChain fLe fLe (.val (vC (.int 1))) (.rd 0) (.val (vC (.int 5)))))))
  (vsRaise "InvalidCount")
  vsNext) (o :: ρ) E := rfl
def d_need_gauges : PFn := fnRun 1 1
  b_need_gauges_0
theorem ud_need_gauges {args : List SV} {Q : QV} {W : WxV} : d_need_gauges args Q W = (args.length = 1 ∧ b_need_gauges_0 (startV 1 args) { nx := fun r => Q (.sh .non) r, rt := Q, ex := W }) := rfl
def b_need_bound_0 : PSv := (vsIf (vNot (vTru (.val (vCall d_fits_bound [(.rd 0), (.rd 1)]))))
  (vsRaise "InvalidBound")
  vsNext)
theorem ub_need_bound_0 {o : Option SV} {ρ : Vx.Env} {E : VEnds} : b_need_bound_0 (o :: ρ) E = (vsIf (vNot (vTru (.val (vCall d_fits_bound [(.rd 0), (.rd 1)]))))
  (vsRaise "InvalidBound")
  vsNext) (o :: ρ) E := rfl
def d_need_bound : PFn := fnRun 2 2
  b_need_bound_0
theorem ud_need_bound {args : List SV} {Q : QV} {W : WxV} : d_need_bound args Q W = (args.length = 2 ∧ b_need_bound_0 (startV 2 args) { nx := fun r => Q (.sh .non) r, rt := Q, ex := W }) := rfl
def b_need_rule_0 : PSv := (vsIf (vNot (vTru (.val (vCall d_fits_rule [(.rd 0), (.rd 1)]))))
  (vsRaise "InvalidRule")
  vsNext)
theorem ub_need_rule_0 {o : Option SV} {ρ : Vx.Env} {E : VEnds} : b_need_rule_0 (o :: ρ) E = (vsIf (vNot (vTru (.val (vCall d_fits_rule [(.rd 0), (.rd 1)]))))
  (vsRaise "InvalidRule")
  vsNext) (o :: ρ) E := rfl
def d_need_rule : PFn := fnRun 2 2
  b_need_rule_0
theorem ud_need_rule {args : List SV} {Q : QV} {W : WxV} : d_need_rule args Q W = (args.length = 2 ∧ b_need_rule_0 (startV 2 args) { nx := fun r => Q (.sh .non) r, rt := Q, ex := W }) := rfl
def b_side_of_0 : PSv := (vsRet (vBin fAdd (.val (vBin fMulI (.val (vC (.int 2))) (.val (vBin fIx (.rd 0) (.val (vC (.int 0))))))) (.val (vCB fInt1 [(.val (vBin fEq (.val (vBin fIx (.rd 0) (.val (vC (.int 1))))) (.val (vC (.str "most")))))]))))
theorem ub_side_of_0 {o : Option SV} {ρ : Vx.Env} {E : VEnds} : b_side_of_0 (o :: ρ) E = (vsRet (vBin fAdd (.val (vBin fMulI (.val (vC (.int 2))) (.val (vBin fIx (.rd 0) (.val (vC (.int 0))))))) (.val (vCB fInt1 [(.val (vBin fEq (.val (vBin fIx (.rd 0) (.val (vC (.int 1))))) (.val (vC (.str "most")))))])))) (o :: ρ) E := rfl
def d_side_of : PFn := fnRun 1 1
  b_side_of_0
theorem ud_side_of {args : List SV} {Q : QV} {W : WxV} : d_side_of args Q W = (args.length = 1 ∧ b_side_of_0 (startV 1 args) { nx := fun r => Q (.sh .non) r, rt := Q, ex := W }) := rfl
def b_level_of_0 : PSv := (vsRet (vBin fIx (.rd 0) (.val (vC (.int 2)))))
theorem ub_level_of_0 {o : Option SV} {ρ : Vx.Env} {E : VEnds} : b_level_of_0 (o :: ρ) E = (vsRet (vBin fIx (.rd 0) (.val (vC (.int 2))))) (o :: ρ) E := rfl
def b_level_of_1 : PSv := (vsSeq (vsIf (vTest (vBin fEq (.val (vBin fIx (.rd 0) (.val (vC (.int 1))))) (.val (vC (.str "most")))))
  (vsRet (vUn fNeg (.val (vBin fIx (.rd 0) (.val (vC (.int 2)))))))
  vsNext) b_level_of_0)
theorem ub_level_of_1 {o : Option SV} {ρ : Vx.Env} {E : VEnds} : b_level_of_1 (o :: ρ) E = (vsSeq (vsIf (vTest (vBin fEq (.val (vBin fIx (.rd 0) (.val (vC (.int 1))))) (.val (vC (.str "most")))))
  (vsRet (vUn fNeg (.val (vBin fIx (.rd 0) (.val (vC (.int 2)))))))
  vsNext) b_level_of_0) (o :: ρ) E := rfl
def d_level_of : PFn := fnRun 1 1
  b_level_of_1
theorem ud_level_of {args : List SV} {Q : QV} {W : WxV} : d_level_of args Q W = (args.length = 1 ∧ b_level_of_1 (startV 1 args) { nx := fun r => Q (.sh .non) r, rt := Q, ex := W }) := rfl
def b_bound_at_0 : PSv := (vsRet (vTup [(vBin fDiv (.rd 0) (.val (vC (.int 2)))), (vBin fIx (.val (vC (.tup [.str "least", .str "most"]))) (.val (vC (.int 0)))), (vVar 1)]))
theorem ub_bound_at_0 {o : Option SV} {ρ : Vx.Env} {E : VEnds} : b_bound_at_0 (o :: ρ) E = (vsRet (vTup [(vBin fDiv (.rd 0) (.val (vC (.int 2)))), (vBin fIx (.val (vC (.tup [.str "least", .str "most"]))) (.val (vC (.int 0)))), (vVar 1)])) (o :: ρ) E := rfl
def b_bound_at_1 : PSv := (vsSeq (vsIf (vTest (vBin fEq (.val (vBin fAnd (.rd 0) (.val (vC (.int 1))))) (.val (vC (.int 1)))))
  (vsRet (vTup [(vBin fDiv (.rd 0) (.val (vC (.int 2)))), (vBin fIx (.val (vC (.tup [.str "least", .str "most"]))) (.val (vC (.int 1)))), (vUn fNeg (.rd 1))]))
  vsNext) b_bound_at_0)
theorem ub_bound_at_1 {o : Option SV} {ρ : Vx.Env} {E : VEnds} : b_bound_at_1 (o :: ρ) E = (vsSeq (vsIf (vTest (vBin fEq (.val (vBin fAnd (.rd 0) (.val (vC (.int 1))))) (.val (vC (.int 1)))))
  (vsRet (vTup [(vBin fDiv (.rd 0) (.val (vC (.int 2)))), (vBin fIx (.val (vC (.tup [.str "least", .str "most"]))) (.val (vC (.int 1)))), (vUn fNeg (.rd 1))]))
  vsNext) b_bound_at_0) (o :: ρ) E := rfl
def d_bound_at : PFn := fnRun 2 2
  b_bound_at_1
theorem ud_bound_at {args : List SV} {Q : QV} {W : WxV} : d_bound_at args Q W = (args.length = 2 ∧ b_bound_at_1 (startV 2 args) { nx := fun r => Q (.sh .non) r, rt := Q, ex := W }) := rfl
def b_links_of_0 : PSv := (vsDrop (vMeth 1 fAppend [(vTup [(vVar 2), (vBin fAdd (.val (vBin fMulI (.val (vC (.int 2))) (.val (vBin fIx (.rd 3) (.val (vC (.int 2))))))) (.val (vC (.int 1)))), (vBin fAdd (.val (vBin fMulI (.val (vC (.int 2))) (.val (vBin fIx (.rd 3) (.val (vC (.int 1))))))) (.val (vC (.int 1)))), (vUn fNeg (.val (vBin fIx (.rd 3) (.val (vC (.int 3))))))])]))
theorem ub_links_of_0 {o : Option SV} {ρ : Vx.Env} {E : VEnds} : b_links_of_0 (o :: ρ) E = (vsDrop (vMeth 1 fAppend [(vTup [(vVar 2), (vBin fAdd (.val (vBin fMulI (.val (vC (.int 2))) (.val (vBin fIx (.rd 3) (.val (vC (.int 2))))))) (.val (vC (.int 1)))), (vBin fAdd (.val (vBin fMulI (.val (vC (.int 2))) (.val (vBin fIx (.rd 3) (.val (vC (.int 1))))))) (.val (vC (.int 1)))), (vUn fNeg (.val (vBin fIx (.rd 3) (.val (vC (.int 3))))))])])) (o :: ρ) E := rfl
def b_links_of_1 : PSv := (vsDrop (vMeth 1 fAppend [(vTup [(vVar 2), (vBin fMulI (.val (vC (.int 2))) (.val (vBin fIx (.rd 3) (.val (vC (.int 2)))))), (vBin fAdd (.val (vBin fMulI (.val (vC (.int 2))) (.val (vBin fIx (.rd 3) (.val (vC (.int 1))))))) (.val (vC (.int 1)))), (vUn fNeg (.val (vBin fIx (.rd 3) (.val (vC (.int 4))))))])]))
theorem ub_links_of_1 {o : Option SV} {ρ : Vx.Env} {E : VEnds} : b_links_of_1 (o :: ρ) E = (vsDrop (vMeth 1 fAppend [(vTup [(vVar 2), (vBin fMulI (.val (vC (.int 2))) (.val (vBin fIx (.rd 3) (.val (vC (.int 2)))))), (vBin fAdd (.val (vBin fMulI (.val (vC (.int 2))) (.val (vBin fIx (.rd 3) (.val (vC (.int 1))))))) (.val (vC (.int 1)))), (vUn fNeg (.val (vBin fIx (.rd 3) (.val (vC (.int 4))))))])])) (o :: ρ) E := rfl
def b_links_of_2 : PSv := (vsDrop (vMeth 1 fAppend [(vTup [(vVar 2), (vBin fAdd (.val (vBin fMulI (.val (vC (.int 2))) (.val (vBin fIx (.rd 3) (.val (vC (.int 2))))))) (.val (vC (.int 1)))), (vBin fMulI (.val (vC (.int 2))) (.val (vBin fIx (.rd 3) (.val (vC (.int 1)))))), (vBin fIx (.rd 3) (.val (vC (.int 4))))])]))
theorem ub_links_of_2 {o : Option SV} {ρ : Vx.Env} {E : VEnds} : b_links_of_2 (o :: ρ) E = (vsDrop (vMeth 1 fAppend [(vTup [(vVar 2), (vBin fAdd (.val (vBin fMulI (.val (vC (.int 2))) (.val (vBin fIx (.rd 3) (.val (vC (.int 2))))))) (.val (vC (.int 1)))), (vBin fMulI (.val (vC (.int 2))) (.val (vBin fIx (.rd 3) (.val (vC (.int 1)))))), (vBin fIx (.rd 3) (.val (vC (.int 4))))])])) (o :: ρ) E := rfl
def b_links_of_3 : PSv := (vsIf (vTest (vBin fEq (.val (vBin fIx (.rd 3) (.val (vC (.int 0))))) (.val (vC (.str "apart")))))
  (vsSeq (vsDrop (vMeth 1 fAppend [(vTup [(vVar 2), (vBin fMulI (.val (vC (.int 2))) (.val (vBin fIx (.rd 3) (.val (vC (.int 1)))))), (vBin fMulI (.val (vC (.int 2))) (.val (vBin fIx (.rd 3) (.val (vC (.int 2)))))), (vUn fNeg (.val (vBin fIx (.rd 3) (.val (vC (.int 3))))))])])) b_links_of_0)
  (vsIf (vAndT (vTest (vBin fEq (.val (vBin fIx (.rd 3) (.val (vC (.int 0))))) (.val (vC (.str "sum"))))) (vTest (vBin fEq (.val (vBin fIx (.rd 3) (.val (vC (.int 3))))) (.val (vC (.str "most"))))))
  (vsSeq (vsDrop (vMeth 1 fAppend [(vTup [(vVar 2), (vBin fMulI (.val (vC (.int 2))) (.val (vBin fIx (.rd 3) (.val (vC (.int 1)))))), (vBin fAdd (.val (vBin fMulI (.val (vC (.int 2))) (.val (vBin fIx (.rd 3) (.val (vC (.int 2))))))) (.val (vC (.int 1)))), (vUn fNeg (.val (vBin fIx (.rd 3) (.val (vC (.int 4))))))])])) b_links_of_1)
  (vsIf (vTest (vBin fEq (.val (vBin fIx (.rd 3) (.val (vC (.int 0))))) (.val (vC (.str "sum")))))
  (vsSeq (vsDrop (vMeth 1 fAppend [(vTup [(vVar 2), (vBin fAdd (.val (vBin fMulI (.val (vC (.int 2))) (.val (vBin fIx (.rd 3) (.val (vC (.int 1))))))) (.val (vC (.int 1)))), (vBin fMulI (.val (vC (.int 2))) (.val (vBin fIx (.rd 3) (.val (vC (.int 2)))))), (vBin fIx (.rd 3) (.val (vC (.int 4))))])])) b_links_of_2)
  vsNext)))
theorem ub_links_of_3 {o : Option SV} {ρ : Vx.Env} {E : VEnds} : b_links_of_3 (o :: ρ) E = (vsIf (vTest (vBin fEq (.val (vBin fIx (.rd 3) (.val (vC (.int 0))))) (.val (vC (.str "apart")))))
  (vsSeq (vsDrop (vMeth 1 fAppend [(vTup [(vVar 2), (vBin fMulI (.val (vC (.int 2))) (.val (vBin fIx (.rd 3) (.val (vC (.int 1)))))), (vBin fMulI (.val (vC (.int 2))) (.val (vBin fIx (.rd 3) (.val (vC (.int 2)))))), (vUn fNeg (.val (vBin fIx (.rd 3) (.val (vC (.int 3))))))])])) b_links_of_0)
  (vsIf (vAndT (vTest (vBin fEq (.val (vBin fIx (.rd 3) (.val (vC (.int 0))))) (.val (vC (.str "sum"))))) (vTest (vBin fEq (.val (vBin fIx (.rd 3) (.val (vC (.int 3))))) (.val (vC (.str "most"))))))
  (vsSeq (vsDrop (vMeth 1 fAppend [(vTup [(vVar 2), (vBin fMulI (.val (vC (.int 2))) (.val (vBin fIx (.rd 3) (.val (vC (.int 1)))))), (vBin fAdd (.val (vBin fMulI (.val (vC (.int 2))) (.val (vBin fIx (.rd 3) (.val (vC (.int 2))))))) (.val (vC (.int 1)))), (vUn fNeg (.val (vBin fIx (.rd 3) (.val (vC (.int 4))))))])])) b_links_of_1)
  (vsIf (vTest (vBin fEq (.val (vBin fIx (.rd 3) (.val (vC (.int 0))))) (.val (vC (.str "sum")))))
  (vsSeq (vsDrop (vMeth 1 fAppend [(vTup [(vVar 2), (vBin fAdd (.val (vBin fMulI (.val (vC (.int 2))) (.val (vBin fIx (.rd 3) (.val (vC (.int 1))))))) (.val (vC (.int 1)))), (vBin fMulI (.val (vC (.int 2))) (.val (vBin fIx (.rd 3) (.val (vC (.int 2)))))), (vBin fIx (.rd 3) (.val (vC (.int 4))))])])) b_links_of_2)
  vsNext))) (o :: ρ) E := rfl
def b_links_of_4 : PSv := (vsSeq (vsFor (srcE (vVar 0)) (vgTup 2 (vgCons (vgName 2) (vgCons (vgName 3) vgNil)))
  b_links_of_3) (vsRet (vMove 1)))
theorem ub_links_of_4 {o : Option SV} {ρ : Vx.Env} {E : VEnds} : b_links_of_4 (o :: ρ) E = (vsSeq (vsFor (srcE (vVar 0)) (vgTup 2 (vgCons (vgName 2) (vgCons (vgName 3) vgNil)))
  b_links_of_3) (vsRet (vMove 1))) (o :: ρ) E := rfl
def b_links_of_5 : PSv := (vsSeq (vsAsg (vLst []) (vgName 1)) b_links_of_4)
theorem ub_links_of_5 {o : Option SV} {ρ : Vx.Env} {E : VEnds} : b_links_of_5 (o :: ρ) E = (vsSeq (vsAsg (vLst []) (vgName 1)) b_links_of_4) (o :: ρ) E := rfl
def d_links_of : PFn := fnRun 1 4
  b_links_of_5
theorem ud_links_of {args : List SV} {Q : QV} {W : WxV} : d_links_of args Q W = (args.length = 1 ∧ b_links_of_5 (startV 4 args) { nx := fun r => Q (.sh .non) r, rt := Q, ex := W }) := rfl
def b_gates_of_0 : PSv := (vsDrop (vMeth 1 fAppend [(vTup [(vVar 2), (vBin fXor (.val (vCall d_side_of [(.rd 4)])) (.val (vC (.int 1)))), (vBin fSub (.val (vC (.int 1))) (.val (vCall d_level_of [(.rd 4)]))), (vCall d_side_of [(.rd 5)]), (vCall d_level_of [(.rd 5)])])]))
theorem ub_gates_of_0 {o : Option SV} {ρ : Vx.Env} {E : VEnds} : b_gates_of_0 (o :: ρ) E = (vsDrop (vMeth 1 fAppend [(vTup [(vVar 2), (vBin fXor (.val (vCall d_side_of [(.rd 4)])) (.val (vC (.int 1)))), (vBin fSub (.val (vC (.int 1))) (.val (vCall d_level_of [(.rd 4)]))), (vCall d_side_of [(.rd 5)]), (vCall d_level_of [(.rd 5)])])])) (o :: ρ) E := rfl
def b_gates_of_1 : PSv := (vsIf (vTest (vBin fEq (.val (vBin fIx (.rd 3) (.val (vC (.int 0))))) (.val (vC (.str "either")))))
  (vsFor (srcV (vTup [(vTup [(vBin fIx (.rd 3) (.val (vC (.int 1)))), (vBin fIx (.rd 3) (.val (vC (.int 2))))]), (vTup [(vBin fIx (.rd 3) (.val (vC (.int 2)))), (vBin fIx (.rd 3) (.val (vC (.int 1))))])])) (vgTup 2 (vgCons (vgName 4) (vgCons (vgName 5) vgNil)))
  b_gates_of_0)
  vsNext)
theorem ub_gates_of_1 {o : Option SV} {ρ : Vx.Env} {E : VEnds} : b_gates_of_1 (o :: ρ) E = (vsIf (vTest (vBin fEq (.val (vBin fIx (.rd 3) (.val (vC (.int 0))))) (.val (vC (.str "either")))))
  (vsFor (srcV (vTup [(vTup [(vBin fIx (.rd 3) (.val (vC (.int 1)))), (vBin fIx (.rd 3) (.val (vC (.int 2))))]), (vTup [(vBin fIx (.rd 3) (.val (vC (.int 2)))), (vBin fIx (.rd 3) (.val (vC (.int 1))))])])) (vgTup 2 (vgCons (vgName 4) (vgCons (vgName 5) vgNil)))
  b_gates_of_0)
  vsNext) (o :: ρ) E := rfl
def b_gates_of_2 : PSv := (vsSeq (vsFor (srcE (vVar 0)) (vgTup 2 (vgCons (vgName 2) (vgCons (vgName 3) vgNil)))
  b_gates_of_1) (vsRet (vMove 1)))
theorem ub_gates_of_2 {o : Option SV} {ρ : Vx.Env} {E : VEnds} : b_gates_of_2 (o :: ρ) E = (vsSeq (vsFor (srcE (vVar 0)) (vgTup 2 (vgCons (vgName 2) (vgCons (vgName 3) vgNil)))
  b_gates_of_1) (vsRet (vMove 1))) (o :: ρ) E := rfl
def b_gates_of_3 : PSv := (vsSeq (vsAsg (vLst []) (vgName 1)) b_gates_of_2)
theorem ub_gates_of_3 {o : Option SV} {ρ : Vx.Env} {E : VEnds} : b_gates_of_3 (o :: ρ) E = (vsSeq (vsAsg (vLst []) (vgName 1)) b_gates_of_2) (o :: ρ) E := rfl
def d_gates_of : PFn := fnRun 1 6
  b_gates_of_3
theorem ud_gates_of {args : List SV} {Q : QV} {W : WxV} : d_gates_of args Q W = (args.length = 1 ∧ b_gates_of_3 (startV 6 args) { nx := fun r => Q (.sh .non) r, rt := Q, ex := W }) := rfl
def b_forced_by_0 : PSv := (vsIf (vTest (vBin fEq (.rd 6) (.rd 2)))
  (vsDrop (vMeth 4 fAppend [(vCall d_bound_at [(.rd 7), (.val (vBin fAdd (.rd 3) (.rd 8)))])]))
  vsNext)
theorem ub_forced_by_0 {o : Option SV} {ρ : Vx.Env} {E : VEnds} : b_forced_by_0 (o :: ρ) E = (vsIf (vTest (vBin fEq (.rd 6) (.rd 2)))
  (vsDrop (vMeth 4 fAppend [(vCall d_bound_at [(.rd 7), (.val (vBin fAdd (.rd 3) (.rd 8)))])]))
  vsNext) (o :: ρ) E := rfl
def b_forced_by_1 : PSv := (vsIf (vAndT (vTest (vBin fEq (.rd 6) (.rd 2))) (vAndT (vTest (vBin fGe (.rd 3) (.rd 9))) (vTest (vBin fNotIn (.rd 11) (.rd 4)))))
  (vsDrop (vMeth 4 fAppend [(vVar 11)]))
  vsNext)
theorem ub_forced_by_1 {o : Option SV} {ρ : Vx.Env} {E : VEnds} : b_forced_by_1 (o :: ρ) E = (vsIf (vAndT (vTest (vBin fEq (.rd 6) (.rd 2))) (vAndT (vTest (vBin fGe (.rd 3) (.rd 9))) (vTest (vBin fNotIn (.rd 11) (.rd 4)))))
  (vsDrop (vMeth 4 fAppend [(vVar 11)]))
  vsNext) (o :: ρ) E := rfl
def b_forced_by_2 : PSv := (vsSeq (vsAsg (vCall d_bound_at [(.rd 7), (.val (vVar 10))]) (vgName 11)) b_forced_by_1)
theorem ub_forced_by_2 {o : Option SV} {ρ : Vx.Env} {E : VEnds} : b_forced_by_2 (o :: ρ) E = (vsSeq (vsAsg (vCall d_bound_at [(.rd 7), (.val (vVar 10))]) (vgName 11)) b_forced_by_1) (o :: ρ) E := rfl
def b_forced_by_3 : PSv := (vsSeq (vsIf (vAndT (vTest (vBin fEq (.val (vCB fLen [(.rd 4)])) (.val (vC (.int 2))))) (vTest (vBin fLtD (.val (vBin fIx (.rd 4) (.val (vC (.int 1))))) (.val (vBin fIx (.rd 4) (.val (vC (.int 0))))))))
  (vsRet (vLst [(vBin fIx (.rd 4) (.val (vC (.int 1)))), (vBin fIx (.rd 4) (.val (vC (.int 0))))]))
  vsNext) (vsRet (vMove 4)))
theorem ub_forced_by_3 {o : Option SV} {ρ : Vx.Env} {E : VEnds} : b_forced_by_3 (o :: ρ) E = (vsSeq (vsIf (vAndT (vTest (vBin fEq (.val (vCB fLen [(.rd 4)])) (.val (vC (.int 2))))) (vTest (vBin fLtD (.val (vBin fIx (.rd 4) (.val (vC (.int 1))))) (.val (vBin fIx (.rd 4) (.val (vC (.int 0))))))))
  (vsRet (vLst [(vBin fIx (.rd 4) (.val (vC (.int 1)))), (vBin fIx (.rd 4) (.val (vC (.int 0))))]))
  vsNext) (vsRet (vMove 4))) (o :: ρ) E := rfl
def b_forced_by_4 : PSv := (vsSeq (vsFor (srcV (vCall d_gates_of [(.val (vTup [(vVar 0)]))])) (vgTup 5 (vgCons (vgName 5) (vgCons (vgName 6) (vgCons (vgName 9) (vgCons (vgName 7) (vgCons (vgName 10) vgNil))))))
  b_forced_by_2) b_forced_by_3)
theorem ub_forced_by_4 {o : Option SV} {ρ : Vx.Env} {E : VEnds} : b_forced_by_4 (o :: ρ) E = (vsSeq (vsFor (srcV (vCall d_gates_of [(.val (vTup [(vVar 0)]))])) (vgTup 5 (vgCons (vgName 5) (vgCons (vgName 6) (vgCons (vgName 9) (vgCons (vgName 7) (vgCons (vgName 10) vgNil))))))
  b_forced_by_2) b_forced_by_3) (o :: ρ) E := rfl
def b_forced_by_5 : PSv := (vsSeq (vsFor (srcV (vCall d_links_of [(.val (vTup [(vVar 0)]))])) (vgTup 4 (vgCons (vgName 5) (vgCons (vgName 6) (vgCons (vgName 7) (vgCons (vgName 8) vgNil)))))
  b_forced_by_0) b_forced_by_4)
theorem ub_forced_by_5 {o : Option SV} {ρ : Vx.Env} {E : VEnds} : b_forced_by_5 (o :: ρ) E = (vsSeq (vsFor (srcV (vCall d_links_of [(.val (vTup [(vVar 0)]))])) (vgTup 4 (vgCons (vgName 5) (vgCons (vgName 6) (vgCons (vgName 7) (vgCons (vgName 8) vgNil)))))
  b_forced_by_0) b_forced_by_4) (o :: ρ) E := rfl
def b_forced_by_6 : PSv := (vsSeq (vsAsg (vLst []) (vgName 4)) b_forced_by_5)
theorem ub_forced_by_6 {o : Option SV} {ρ : Vx.Env} {E : VEnds} : b_forced_by_6 (o :: ρ) E = (vsSeq (vsAsg (vLst []) (vgName 4)) b_forced_by_5) (o :: ρ) E := rfl
def b_forced_by_7 : PSv := (vsSeq (vsAsg (vCall d_level_of [(.rd 1)]) (vgName 3)) b_forced_by_6)
theorem ub_forced_by_7 {o : Option SV} {ρ : Vx.Env} {E : VEnds} : b_forced_by_7 (o :: ρ) E = (vsSeq (vsAsg (vCall d_level_of [(.rd 1)]) (vgName 3)) b_forced_by_6) (o :: ρ) E := rfl
def b_forced_by_8 : PSv := (vsSeq (vsAsg (vCall d_side_of [(.rd 1)]) (vgName 2)) b_forced_by_7)
theorem ub_forced_by_8 {o : Option SV} {ρ : Vx.Env} {E : VEnds} : b_forced_by_8 (o :: ρ) E = (vsSeq (vsAsg (vCall d_side_of [(.rd 1)]) (vgName 2)) b_forced_by_7) (o :: ρ) E := rfl
def d_forced_by : PFn := fnRun 2 12
  b_forced_by_8
theorem ud_forced_by {args : List SV} {Q : QV} {W : WxV} : d_forced_by args Q W = (args.length = 2 ∧ b_forced_by_8 (startV 12 args) { nx := fun r => Q (.sh .non) r, rt := Q, ex := W }) := rfl
def b_forced_0 : PSv := (vsRet (vCall d_forced_by [(.val (vVar 1)), (.rd 2)]))
theorem ub_forced_0 {o : Option SV} {ρ : Vx.Env} {E : VEnds} : b_forced_0 (o :: ρ) E = (vsRet (vCall d_forced_by [(.val (vVar 1)), (.rd 2)])) (o :: ρ) E := rfl
def b_forced_1 : PSv := (vsSeq (vsDrop (vCall d_need_bound [(.rd 0), (.rd 2)])) b_forced_0)
theorem ub_forced_1 {o : Option SV} {ρ : Vx.Env} {E : VEnds} : b_forced_1 (o :: ρ) E = (vsSeq (vsDrop (vCall d_need_bound [(.rd 0), (.rd 2)])) b_forced_0) (o :: ρ) E := rfl
def b_forced_2 : PSv := (vsSeq (vsDrop (vCall d_need_rule [(.rd 0), (.rd 1)])) b_forced_1)
theorem ub_forced_2 {o : Option SV} {ρ : Vx.Env} {E : VEnds} : b_forced_2 (o :: ρ) E = (vsSeq (vsDrop (vCall d_need_rule [(.rd 0), (.rd 1)])) b_forced_1) (o :: ρ) E := rfl
def b_forced_3 : PSv := (vsSeq (vsDrop (vCall d_need_gauges [(.rd 0)])) b_forced_2)
theorem ub_forced_3 {o : Option SV} {ρ : Vx.Env} {E : VEnds} : b_forced_3 (o :: ρ) E = (vsSeq (vsDrop (vCall d_need_gauges [(.rd 0)])) b_forced_2) (o :: ρ) E := rfl
def d_forced : PFn := fnRun 3 3
  b_forced_3
theorem ud_forced {args : List SV} {Q : QV} {W : WxV} : d_forced args Q W = (args.length = 3 ∧ b_forced_3 (startV 3 args) { nx := fun r => Q (.sh .non) r, rt := Q, ex := W }) := rfl
def b__law_bag_0 : PSv := (vsRet (vLst [(vCB fMax [(.val (vC (.int 0))), (.val (vBin fSub (.rd 0) (.val (vBin fPow (.val (vC (.int 10))) (.val (vC (.int 18)))))))]), (vBin fMod (.val (vCB fInt1 [(.rd 0)])) (.val (vC (.int 1000000000000000177)))), (vC (.int 0))]))
theorem ub__law_bag_0 {o : Option SV} {ρ : Vx.Env} {E : VEnds} : b__law_bag_0 (o :: ρ) E = (vsRet (vLst [(vCB fMax [(.val (vC (.int 0))), (.val (vBin fSub (.rd 0) (.val (vBin fPow (.val (vC (.int 10))) (.val (vC (.int 18)))))))]), (vBin fMod (.val (vCB fInt1 [(.rd 0)])) (.val (vC (.int 1000000000000000177)))), (vC (.int 0))])) (o :: ρ) E := rfl
def d__law_bag : PFn := fnRun 1 1
  b__law_bag_0
theorem ud__law_bag {args : List SV} {Q : QV} {W : WxV} : d__law_bag args Q W = (args.length = 1 ∧ b__law_bag_0 (startV 1 args) { nx := fun r => Q (.sh .non) r, rt := Q, ex := W }) := rfl
def b__law_draw_0 : PSv := (vsSeq (vsSetIx 0 (.val (vC (.int 0))) (vBin fDiv (.val (vBin fIx (.rd 0) (.val (vC (.int 0))))) (.rd 1))) (vsRet (vMove 2)))
theorem ub__law_draw_0 {o : Option SV} {ρ : Vx.Env} {E : VEnds} : b__law_draw_0 (o :: ρ) E = (vsSeq (vsSetIx 0 (.val (vC (.int 0))) (vBin fDiv (.val (vBin fIx (.rd 0) (.val (vC (.int 0))))) (.rd 1))) (vsRet (vMove 2))) (o :: ρ) E := rfl
def b__law_draw_1 : PSv := (vsRet (vBin fMod (.val (vBin fDiv (.val (vBin fMod (.val (vCB fInt1 [(.val (vBin fAdd (.val (vBin fMulI (.rd 4) (.rd 4))) (.val (vBin fMulI (.val (vC (.int 8191))) (.rd 4)))))])) (.val (vC (.int 2305843009213693921))))) (.val (vC (.int 4096))))) (.rd 1)))
theorem ub__law_draw_1 {o : Option SV} {ρ : Vx.Env} {E : VEnds} : b__law_draw_1 (o :: ρ) E = (vsRet (vBin fMod (.val (vBin fDiv (.val (vBin fMod (.val (vCB fInt1 [(.val (vBin fAdd (.val (vBin fMulI (.rd 4) (.rd 4))) (.val (vBin fMulI (.val (vC (.int 8191))) (.rd 4)))))])) (.val (vC (.int 2305843009213693921))))) (.val (vC (.int 4096))))) (.rd 1))) (o :: ρ) E := rfl
def b__law_draw_2 : PSv := (vsSeq (vsAsg (vBin fMod (.val (vCB fInt1 [(.val (vBin fAdd (.val (vBin fAdd (.val (vBin fMulI (.rd 4) (.rd 4))) (.val (vBin fMulI (.val (vC (.int 524287))) (.rd 4))))) (.rd 3)))])) (.val (vC (.int 2305843009213693951)))) (vgName 4)) b__law_draw_1)
theorem ub__law_draw_2 {o : Option SV} {ρ : Vx.Env} {E : VEnds} : b__law_draw_2 (o :: ρ) E = (vsSeq (vsAsg (vBin fMod (.val (vCB fInt1 [(.val (vBin fAdd (.val (vBin fAdd (.val (vBin fMulI (.rd 4) (.rd 4))) (.val (vBin fMulI (.val (vC (.int 524287))) (.rd 4))))) (.rd 3)))])) (.val (vC (.int 2305843009213693951)))) (vgName 4)) b__law_draw_1) (o :: ρ) E := rfl
def b__law_draw_3 : PSv := (vsSeq (vsAsg (vBin fMod (.val (vCB fInt1 [(.val (vBin fMulI (.val (vBin fAdd (.val (vBin fAdd (.val (vBin fIx (.rd 0) (.val (vC (.int 1))))) (.val (vBin fMulI (.val (vC (.int 19))) (.rd 3))))) (.val (vC (.int 5))))) (.rd 4)))])) (.val (vC (.int 1000000000000000003)))) (vgName 4)) b__law_draw_2)
theorem ub__law_draw_3 {o : Option SV} {ρ : Vx.Env} {E : VEnds} : b__law_draw_3 (o :: ρ) E = (vsSeq (vsAsg (vBin fMod (.val (vCB fInt1 [(.val (vBin fMulI (.val (vBin fAdd (.val (vBin fAdd (.val (vBin fIx (.rd 0) (.val (vC (.int 1))))) (.val (vBin fMulI (.val (vC (.int 19))) (.rd 3))))) (.val (vC (.int 5))))) (.rd 4)))])) (.val (vC (.int 1000000000000000003)))) (vgName 4)) b__law_draw_2) (o :: ρ) E := rfl
def b__law_draw_4 : PSv := (vsSeq (vsAsg (vBin fAdd (.val (vBin fAdd (.val (vBin fMulI (.val (vBin fMulI (.val (vC (.int 3))) (.rd 3))) (.rd 3))) (.val (vBin fMulI (.val (vC (.int 70001))) (.rd 3))))) (.val (vC (.int 29)))) (vgName 4)) b__law_draw_3)
theorem ub__law_draw_4 {o : Option SV} {ρ : Vx.Env} {E : VEnds} : b__law_draw_4 (o :: ρ) E = (vsSeq (vsAsg (vBin fAdd (.val (vBin fAdd (.val (vBin fMulI (.val (vBin fMulI (.val (vC (.int 3))) (.rd 3))) (.rd 3))) (.val (vBin fMulI (.val (vC (.int 70001))) (.rd 3))))) (.val (vC (.int 29)))) (vgName 4)) b__law_draw_3) (o :: ρ) E := rfl
def b__law_draw_5 : PSv := (vsSeq (vsAsg (vBin fIx (.rd 0) (.val (vC (.int 2)))) (vgName 3)) b__law_draw_4)
theorem ub__law_draw_5 {o : Option SV} {ρ : Vx.Env} {E : VEnds} : b__law_draw_5 (o :: ρ) E = (vsSeq (vsAsg (vBin fIx (.rd 0) (.val (vC (.int 2)))) (vgName 3)) b__law_draw_4) (o :: ρ) E := rfl
def b__law_draw_6 : PSv := (vsSeq (vsSetIx 0 (.val (vC (.int 2))) (vBin fAdd (.val (vBin fIx (.rd 0) (.val (vC (.int 2))))) (.val (vC (.int 1))))) b__law_draw_5)
theorem ub__law_draw_6 {o : Option SV} {ρ : Vx.Env} {E : VEnds} : b__law_draw_6 (o :: ρ) E = (vsSeq (vsSetIx 0 (.val (vC (.int 2))) (vBin fAdd (.val (vBin fIx (.rd 0) (.val (vC (.int 2))))) (.val (vC (.int 1))))) b__law_draw_5) (o :: ρ) E := rfl
def b__law_draw_7 : PSv := (vsSeq (vsIf (vTest (vBin fGt (.val (vBin fIx (.rd 0) (.val (vC (.int 0))))) (.val (vC (.int 0)))))
  (vsSeq (vsAsg (vBin fMod (.val (vCB fInt1 [(.val (vBin fIx (.rd 0) (.val (vC (.int 0)))))])) (.rd 1)) (vgName 2)) b__law_draw_0)
  vsNext) b__law_draw_6)
theorem ub__law_draw_7 {o : Option SV} {ρ : Vx.Env} {E : VEnds} : b__law_draw_7 (o :: ρ) E = (vsSeq (vsIf (vTest (vBin fGt (.val (vBin fIx (.rd 0) (.val (vC (.int 0))))) (.val (vC (.int 0)))))
  (vsSeq (vsAsg (vBin fMod (.val (vCB fInt1 [(.val (vBin fIx (.rd 0) (.val (vC (.int 0)))))])) (.rd 1)) (vgName 2)) b__law_draw_0)
  vsNext) b__law_draw_6) (o :: ρ) E := rfl
def d__law_draw : PFn := fnRun 2 5
  b__law_draw_7
theorem ud__law_draw {args : List SV} {Q : QV} {W : WxV} : d__law_draw args Q W = (args.length = 2 ∧ b__law_draw_7 (startV 5 args) { nx := fun r => Q (.sh .non) r, rt := Q, ex := W }) := rfl
def b__law_number_0 : PSv := (vsRet (vBin fAdd (.val (vBin fSub (.val (vCall d__law_draw [(.mt 0), (.val (vBin fSub (.val (vBin fMulI (.val (vC (.int 8))) (.val (vBin fPow (.val (vC (.int 10))) (.val (vC (.int 11))))))) (.val (vC (.int 1)))))])) (.val (vBin fMulI (.val (vC (.int 4))) (.val (vBin fPow (.val (vC (.int 10))) (.val (vC (.int 11))))))))) (.val (vC (.int 1)))))
theorem ub__law_number_0 {o : Option SV} {ρ : Vx.Env} {E : VEnds} : b__law_number_0 (o :: ρ) E = (vsRet (vBin fAdd (.val (vBin fSub (.val (vCall d__law_draw [(.mt 0), (.val (vBin fSub (.val (vBin fMulI (.val (vC (.int 8))) (.val (vBin fPow (.val (vC (.int 10))) (.val (vC (.int 11))))))) (.val (vC (.int 1)))))])) (.val (vBin fMulI (.val (vC (.int 4))) (.val (vBin fPow (.val (vC (.int 10))) (.val (vC (.int 11))))))))) (.val (vC (.int 1))))) (o :: ρ) E := rfl
def b__law_number_1 : PSv := (vsSeq (vsIf (vTest (vBin fEq (.rd 1) (.val (vC (.int 3)))))
  (vsRet (vBin fSub (.val (vCall d__law_draw [(.mt 0), (.val (vC (.int 4001)))])) (.val (vC (.int 2000)))))
  vsNext) b__law_number_0)
theorem ub__law_number_1 {o : Option SV} {ρ : Vx.Env} {E : VEnds} : b__law_number_1 (o :: ρ) E = (vsSeq (vsIf (vTest (vBin fEq (.rd 1) (.val (vC (.int 3)))))
  (vsRet (vBin fSub (.val (vCall d__law_draw [(.mt 0), (.val (vC (.int 4001)))])) (.val (vC (.int 2000)))))
  vsNext) b__law_number_0) (o :: ρ) E := rfl
def b__law_number_2 : PSv := (vsSeq (vsIf (vTest (vBin fLt (.rd 1) (.val (vC (.int 3)))))
  (vsRet (vBin fSub (.val (vCall d__law_draw [(.mt 0), (.val (vC (.int 15)))])) (.val (vC (.int 7)))))
  vsNext) b__law_number_1)
theorem ub__law_number_2 {o : Option SV} {ρ : Vx.Env} {E : VEnds} : b__law_number_2 (o :: ρ) E = (vsSeq (vsIf (vTest (vBin fLt (.rd 1) (.val (vC (.int 3)))))
  (vsRet (vBin fSub (.val (vCall d__law_draw [(.mt 0), (.val (vC (.int 15)))])) (.val (vC (.int 7)))))
  vsNext) b__law_number_1) (o :: ρ) E := rfl
def b__law_number_3 : PSv := (vsSeq (vsAsg (vCall d__law_draw [(.mt 0), (.val (vC (.int 5)))]) (vgName 1)) b__law_number_2)
theorem ub__law_number_3 {o : Option SV} {ρ : Vx.Env} {E : VEnds} : b__law_number_3 (o :: ρ) E = (vsSeq (vsAsg (vCall d__law_draw [(.mt 0), (.val (vC (.int 5)))]) (vgName 1)) b__law_number_2) (o :: ρ) E := rfl
def d__law_number : PFn := fnRun 1 2
  b__law_number_3
theorem ud__law_number {args : List SV} {Q : QV} {W : WxV} : d__law_number args Q W = (args.length = 1 ∧ b__law_number_3 (startV 2 args) { nx := fun r => Q (.sh .non) r, rt := Q, ex := W }) := rfl
def b__law_way_0 : PSv := (vsRet (vBin fIx (.val (vLst [(vC (.str "least")), (vC (.str "most"))])) (.val (vCall d__law_draw [(.mt 0), (.val (vC (.int 2)))]))))
theorem ub__law_way_0 {o : Option SV} {ρ : Vx.Env} {E : VEnds} : b__law_way_0 (o :: ρ) E = (vsRet (vBin fIx (.val (vLst [(vC (.str "least")), (vC (.str "most"))])) (.val (vCall d__law_draw [(.mt 0), (.val (vC (.int 2)))])))) (o :: ρ) E := rfl
def d__law_way : PFn := fnRun 1 1
  b__law_way_0
theorem ud__law_way {args : List SV} {Q : QV} {W : WxV} : d__law_way args Q W = (args.length = 1 ∧ b__law_way_0 (startV 1 args) { nx := fun r => Q (.sh .non) r, rt := Q, ex := W }) := rfl
def b__law_mark_0 : PSv := (vsRet (vTup [(vCall d__law_draw [(.mt 0), (.rd 1)]), (vCall d__law_way [(.mt 0)]), (vCall d__law_number [(.mt 0)])]))
theorem ub__law_mark_0 {o : Option SV} {ρ : Vx.Env} {E : VEnds} : b__law_mark_0 (o :: ρ) E = (vsRet (vTup [(vCall d__law_draw [(.mt 0), (.rd 1)]), (vCall d__law_way [(.mt 0)]), (vCall d__law_number [(.mt 0)])])) (o :: ρ) E := rfl
def d__law_mark : PFn := fnRun 2 2
  b__law_mark_0
theorem ud__law_mark {args : List SV} {Q : QV} {W : WxV} : d__law_mark args Q W = (args.length = 2 ∧ b__law_mark_0 (startV 2 args) { nx := fun r => Q (.sh .non) r, rt := Q, ex := W }) := rfl
def b__law_two_0 : PSv := (vsRet (vTup [(vVar 2), (vBin fAdd (.val (vBin fAdd (.rd 2) (.val (vC (.int 1))))) (.val (vCall d__law_draw [(.mt 0), (.val (vBin fSub (.val (vBin fSub (.rd 1) (.val (vC (.int 1))))) (.rd 2)))])))]))
theorem ub__law_two_0 {o : Option SV} {ρ : Vx.Env} {E : VEnds} : b__law_two_0 (o :: ρ) E = (vsRet (vTup [(vVar 2), (vBin fAdd (.val (vBin fAdd (.rd 2) (.val (vC (.int 1))))) (.val (vCall d__law_draw [(.mt 0), (.val (vBin fSub (.val (vBin fSub (.rd 1) (.val (vC (.int 1))))) (.rd 2)))])))])) (o :: ρ) E := rfl
def b__law_two_1 : PSv := (vsSeq (vsAsg (vCall d__law_draw [(.mt 0), (.val (vBin fSub (.rd 1) (.val (vC (.int 1)))))]) (vgName 2)) b__law_two_0)
theorem ub__law_two_1 {o : Option SV} {ρ : Vx.Env} {E : VEnds} : b__law_two_1 (o :: ρ) E = (vsSeq (vsAsg (vCall d__law_draw [(.mt 0), (.val (vBin fSub (.rd 1) (.val (vC (.int 1)))))]) (vgName 2)) b__law_two_0) (o :: ρ) E := rfl
def d__law_two : PFn := fnRun 2 3
  b__law_two_1
theorem ud__law_two {args : List SV} {Q : QV} {W : WxV} : d__law_two args Q W = (args.length = 2 ∧ b__law_two_1 (startV 3 args) { nx := fun r => Q (.sh .non) r, rt := Q, ex := W }) := rfl
def b__law_term_0 : PSv := (vsRet (vTup [(vC (.str "sum")), (vVar 3), (vVar 4), (vCall d__law_way [(.mt 0)]), (vCall d__law_number [(.mt 0)])]))
theorem ub__law_term_0 {o : Option SV} {ρ : Vx.Env} {E : VEnds} : b__law_term_0 (o :: ρ) E = (vsRet (vTup [(vC (.str "sum")), (vVar 3), (vVar 4), (vCall d__law_way [(.mt 0)]), (vCall d__law_number [(.mt 0)])])) (o :: ρ) E := rfl
def b__law_term_1 : PSv := (vsSeq (vsIf (vTest (vBin fEq (.rd 2) (.val (vC (.int 4)))))
  (vsRet (vTup [(vC (.str "apart")), (vVar 4), (vVar 3), (vCall d__law_number [(.mt 0)])]))
  vsNext) b__law_term_0)
theorem ub__law_term_1 {o : Option SV} {ρ : Vx.Env} {E : VEnds} : b__law_term_1 (o :: ρ) E = (vsSeq (vsIf (vTest (vBin fEq (.rd 2) (.val (vC (.int 4)))))
  (vsRet (vTup [(vC (.str "apart")), (vVar 4), (vVar 3), (vCall d__law_number [(.mt 0)])]))
  vsNext) b__law_term_0) (o :: ρ) E := rfl
def b__law_term_2 : PSv := (vsSeq (vsIf (vTest (vBin fEq (.rd 2) (.val (vC (.int 3)))))
  (vsRet (vTup [(vC (.str "apart")), (vVar 3), (vVar 4), (vCall d__law_number [(.mt 0)])]))
  vsNext) b__law_term_1)
theorem ub__law_term_2 {o : Option SV} {ρ : Vx.Env} {E : VEnds} : b__law_term_2 (o :: ρ) E = (vsSeq (vsIf (vTest (vBin fEq (.rd 2) (.val (vC (.int 3)))))
  (vsRet (vTup [(vC (.str "apart")), (vVar 3), (vVar 4), (vCall d__law_number [(.mt 0)])]))
  vsNext) b__law_term_1) (o :: ρ) E := rfl
def b__law_term_3 : PSv := (vsSeq (vsAsg (vCall d__law_two [(.mt 0), (.rd 1)]) (vgTup 2 (vgCons (vgName 3) (vgCons (vgName 4) vgNil)))) b__law_term_2)
theorem ub__law_term_3 {o : Option SV} {ρ : Vx.Env} {E : VEnds} : b__law_term_3 (o :: ρ) E = (vsSeq (vsAsg (vCall d__law_two [(.mt 0), (.rd 1)]) (vgTup 2 (vgCons (vgName 3) (vgCons (vgName 4) vgNil)))) b__law_term_2) (o :: ρ) E := rfl
def b__law_term_4 : PSv := (vsSeq (vsIf (vOrT (vTest (vBin fLt (.rd 2) (.val (vC (.int 3))))) (vTest (vBin fEq (.rd 1) (.val (vC (.int 1))))))
  (vsRet (vTup [(vC (.str "either")), (vCall d__law_mark [(.mt 0), (.rd 1)]), (vCall d__law_mark [(.mt 0), (.rd 1)])]))
  vsNext) b__law_term_3)
theorem ub__law_term_4 {o : Option SV} {ρ : Vx.Env} {E : VEnds} : b__law_term_4 (o :: ρ) E = (vsSeq (vsIf (vOrT (vTest (vBin fLt (.rd 2) (.val (vC (.int 3))))) (vTest (vBin fEq (.rd 1) (.val (vC (.int 1))))))
  (vsRet (vTup [(vC (.str "either")), (vCall d__law_mark [(.mt 0), (.rd 1)]), (vCall d__law_mark [(.mt 0), (.rd 1)])]))
  vsNext) b__law_term_3) (o :: ρ) E := rfl
def b__law_term_5 : PSv := (vsSeq (vsIf (vTest (vBin fEq (.rd 2) (.val (vC (.int 0)))))
  (vsRet (vTup [(vC (.str "bound")), (vCall d__law_mark [(.mt 0), (.rd 1)])]))
  vsNext) b__law_term_4)
theorem ub__law_term_5 {o : Option SV} {ρ : Vx.Env} {E : VEnds} : b__law_term_5 (o :: ρ) E = (vsSeq (vsIf (vTest (vBin fEq (.rd 2) (.val (vC (.int 0)))))
  (vsRet (vTup [(vC (.str "bound")), (vCall d__law_mark [(.mt 0), (.rd 1)])]))
  vsNext) b__law_term_4) (o :: ρ) E := rfl
def b__law_term_6 : PSv := (vsSeq (vsAsg (vCall d__law_draw [(.mt 0), (.val (vC (.int 7)))]) (vgName 2)) b__law_term_5)
theorem ub__law_term_6 {o : Option SV} {ρ : Vx.Env} {E : VEnds} : b__law_term_6 (o :: ρ) E = (vsSeq (vsAsg (vCall d__law_draw [(.mt 0), (.val (vC (.int 7)))]) (vgName 2)) b__law_term_5) (o :: ρ) E := rfl
def d__law_term : PFn := fnRun 2 5
  b__law_term_6
theorem ud__law_term {args : List SV} {Q : QV} {W : WxV} : d__law_term args Q W = (args.length = 2 ∧ b__law_term_6 (startV 5 args) { nx := fun r => Q (.sh .non) r, rt := Q, ex := W }) := rfl
def b__law_contrary_0 : PSv := (vsRet (vTup [(vBin fIx (.rd 0) (.val (vC (.int 0)))), (vC (.str "least")), (vBin fAdd (.val (vBin fIx (.rd 0) (.val (vC (.int 2))))) (.val (vC (.int 1))))]))
theorem ub__law_contrary_0 {o : Option SV} {ρ : Vx.Env} {E : VEnds} : b__law_contrary_0 (o :: ρ) E = (vsRet (vTup [(vBin fIx (.rd 0) (.val (vC (.int 0)))), (vC (.str "least")), (vBin fAdd (.val (vBin fIx (.rd 0) (.val (vC (.int 2))))) (.val (vC (.int 1))))])) (o :: ρ) E := rfl
def b__law_contrary_1 : PSv := (vsSeq (vsIf (vTest (vBin fEq (.val (vBin fIx (.rd 0) (.val (vC (.int 1))))) (.val (vC (.str "least")))))
  (vsRet (vTup [(vBin fIx (.rd 0) (.val (vC (.int 0)))), (vC (.str "most")), (vBin fSub (.val (vBin fIx (.rd 0) (.val (vC (.int 2))))) (.val (vC (.int 1))))]))
  vsNext) b__law_contrary_0)
theorem ub__law_contrary_1 {o : Option SV} {ρ : Vx.Env} {E : VEnds} : b__law_contrary_1 (o :: ρ) E = (vsSeq (vsIf (vTest (vBin fEq (.val (vBin fIx (.rd 0) (.val (vC (.int 1))))) (.val (vC (.str "least")))))
  (vsRet (vTup [(vBin fIx (.rd 0) (.val (vC (.int 0)))), (vC (.str "most")), (vBin fSub (.val (vBin fIx (.rd 0) (.val (vC (.int 2))))) (.val (vC (.int 1))))]))
  vsNext) b__law_contrary_0) (o :: ρ) E := rfl
def d__law_contrary : PFn := fnRun 1 1
  b__law_contrary_1
theorem ud__law_contrary {args : List SV} {Q : QV} {W : WxV} : d__law_contrary args Q W = (args.length = 1 ∧ b__law_contrary_1 (startV 1 args) { nx := fun r => Q (.sh .non) r, rt := Q, ex := W }) := rfl
def b__law_oppose_0 : PSv := (vsRet (vBin fGt (.val (vBin fIx (.rd 1) (.val (vC (.int 2))))) (.val (vBin fIx (.rd 0) (.val (vC (.int 2)))))))
theorem ub__law_oppose_0 {o : Option SV} {ρ : Vx.Env} {E : VEnds} : b__law_oppose_0 (o :: ρ) E = (vsRet (vBin fGt (.val (vBin fIx (.rd 1) (.val (vC (.int 2))))) (.val (vBin fIx (.rd 0) (.val (vC (.int 2))))))) (o :: ρ) E := rfl
def b__law_oppose_1 : PSv := (vsSeq (vsIf (vTest (vBin fEq (.val (vBin fIx (.rd 0) (.val (vC (.int 1))))) (.val (vC (.str "least")))))
  (vsRet (vBin fGt (.val (vBin fIx (.rd 0) (.val (vC (.int 2))))) (.val (vBin fIx (.rd 1) (.val (vC (.int 2)))))))
  vsNext) b__law_oppose_0)
theorem ub__law_oppose_1 {o : Option SV} {ρ : Vx.Env} {E : VEnds} : b__law_oppose_1 (o :: ρ) E = (vsSeq (vsIf (vTest (vBin fEq (.val (vBin fIx (.rd 0) (.val (vC (.int 1))))) (.val (vC (.str "least")))))
  (vsRet (vBin fGt (.val (vBin fIx (.rd 0) (.val (vC (.int 2))))) (.val (vBin fIx (.rd 1) (.val (vC (.int 2)))))))
  vsNext) b__law_oppose_0) (o :: ρ) E := rfl
def b__law_oppose_2 : PSv := (vsSeq (vsIf (vOrT (vTest (vBin fNe (.val (vBin fIx (.rd 0) (.val (vC (.int 0))))) (.val (vBin fIx (.rd 1) (.val (vC (.int 0))))))) (vTest (vBin fEq (.val (vBin fIx (.rd 0) (.val (vC (.int 1))))) (.val (vBin fIx (.rd 1) (.val (vC (.int 1))))))))
  (vsRet (vC (.bl false)))
  vsNext) b__law_oppose_1)
theorem ub__law_oppose_2 {o : Option SV} {ρ : Vx.Env} {E : VEnds} : b__law_oppose_2 (o :: ρ) E = (vsSeq (vsIf (vOrT (vTest (vBin fNe (.val (vBin fIx (.rd 0) (.val (vC (.int 0))))) (.val (vBin fIx (.rd 1) (.val (vC (.int 0))))))) (vTest (vBin fEq (.val (vBin fIx (.rd 0) (.val (vC (.int 1))))) (.val (vBin fIx (.rd 1) (.val (vC (.int 1))))))))
  (vsRet (vC (.bl false)))
  vsNext) b__law_oppose_1) (o :: ρ) E := rfl
def d__law_oppose : PFn := fnRun 2 2
  b__law_oppose_2
theorem ud__law_oppose {args : List SV} {Q : QV} {W : WxV} : d__law_oppose args Q W = (args.length = 2 ∧ b__law_oppose_2 (startV 2 args) { nx := fun r => Q (.sh .non) r, rt := Q, ex := W }) := rfl
def b__law_forced_0 : PSv := (vsSeq (vsIf (vAndT (vTest (vBin fEq (.val (vBin fIx (.rd 0) (.val (vC (.int 0))))) (.val (vC (.str "either"))))) (vAndT (vTru (.val (vCall d__law_oppose [(.rd 1), (.val (vBin fIx (.rd 0) (.val (vC (.int 2)))))]))) (vTest (vBin fNotIn (.val (vBin fIx (.rd 0) (.val (vC (.int 1))))) (.rd 5)))))
  (vsDrop (vMeth 5 fAppend [(vBin fIx (.rd 0) (.val (vC (.int 1))))]))
  vsNext) (vsRet (vSortSetT (vVar 5))))
theorem ub__law_forced_0 {o : Option SV} {ρ : Vx.Env} {E : VEnds} : b__law_forced_0 (o :: ρ) E = (vsSeq (vsIf (vAndT (vTest (vBin fEq (.val (vBin fIx (.rd 0) (.val (vC (.int 0))))) (.val (vC (.str "either"))))) (vAndT (vTru (.val (vCall d__law_oppose [(.rd 1), (.val (vBin fIx (.rd 0) (.val (vC (.int 2)))))]))) (vTest (vBin fNotIn (.val (vBin fIx (.rd 0) (.val (vC (.int 1))))) (.rd 5)))))
  (vsDrop (vMeth 5 fAppend [(vBin fIx (.rd 0) (.val (vC (.int 1))))]))
  vsNext) (vsRet (vSortSetT (vVar 5)))) (o :: ρ) E := rfl
def b__law_forced_1 : PSv := (vsSeq (vsIf (vAndT (vTest (vBin fEq (.val (vBin fIx (.rd 0) (.val (vC (.int 0))))) (.val (vC (.str "either"))))) (vTru (.val (vCall d__law_oppose [(.rd 1), (.val (vBin fIx (.rd 0) (.val (vC (.int 1)))))]))))
  (vsDrop (vMeth 5 fAppend [(vBin fIx (.rd 0) (.val (vC (.int 2))))]))
  vsNext) b__law_forced_0)
theorem ub__law_forced_1 {o : Option SV} {ρ : Vx.Env} {E : VEnds} : b__law_forced_1 (o :: ρ) E = (vsSeq (vsIf (vAndT (vTest (vBin fEq (.val (vBin fIx (.rd 0) (.val (vC (.int 0))))) (.val (vC (.str "either"))))) (vTru (.val (vCall d__law_oppose [(.rd 1), (.val (vBin fIx (.rd 0) (.val (vC (.int 1)))))]))))
  (vsDrop (vMeth 5 fAppend [(vBin fIx (.rd 0) (.val (vC (.int 2))))]))
  vsNext) b__law_forced_0) (o :: ρ) E := rfl
def b__law_forced_2 : PSv := (vsSeq (vsAsg (vLst []) (vgName 5)) b__law_forced_1)
theorem ub__law_forced_2 {o : Option SV} {ρ : Vx.Env} {E : VEnds} : b__law_forced_2 (o :: ρ) E = (vsSeq (vsAsg (vLst []) (vgName 5)) b__law_forced_1) (o :: ρ) E := rfl
def b__law_forced_3 : PSv := (vsSeq (vsIf (vAndT (vTest (vBin fEq (.val (vBin fIx (.rd 0) (.val (vC (.int 0))))) (.val (vC (.str "sum"))))) (vAndT (vTest (vBin fIn (.rd 2) (.val (vLst [(vBin fIx (.rd 0) (.val (vC (.int 1)))), (vBin fIx (.rd 0) (.val (vC (.int 2))))])))) (vTest (vBin fNe (.rd 3) (.val (vBin fIx (.rd 0) (.val (vC (.int 3)))))))))
  (vsRet (vLst [(vTup [(vBin fSub (.val (vBin fAdd (.val (vBin fIx (.rd 0) (.val (vC (.int 1))))) (.val (vBin fIx (.rd 0) (.val (vC (.int 2))))))) (.rd 2)), (vBin fIx (.rd 0) (.val (vC (.int 3)))), (vBin fSub (.val (vBin fIx (.rd 0) (.val (vC (.int 4))))) (.rd 4))])]))
  vsNext) b__law_forced_2)
theorem ub__law_forced_3 {o : Option SV} {ρ : Vx.Env} {E : VEnds} : b__law_forced_3 (o :: ρ) E = (vsSeq (vsIf (vAndT (vTest (vBin fEq (.val (vBin fIx (.rd 0) (.val (vC (.int 0))))) (.val (vC (.str "sum"))))) (vAndT (vTest (vBin fIn (.rd 2) (.val (vLst [(vBin fIx (.rd 0) (.val (vC (.int 1)))), (vBin fIx (.rd 0) (.val (vC (.int 2))))])))) (vTest (vBin fNe (.rd 3) (.val (vBin fIx (.rd 0) (.val (vC (.int 3)))))))))
  (vsRet (vLst [(vTup [(vBin fSub (.val (vBin fAdd (.val (vBin fIx (.rd 0) (.val (vC (.int 1))))) (.val (vBin fIx (.rd 0) (.val (vC (.int 2))))))) (.rd 2)), (vBin fIx (.rd 0) (.val (vC (.int 3)))), (vBin fSub (.val (vBin fIx (.rd 0) (.val (vC (.int 4))))) (.rd 4))])]))
  vsNext) b__law_forced_2) (o :: ρ) E := rfl
def b__law_forced_4 : PSv := (vsSeq (vsIf (vAndT (vTest (vBin fEq (.val (vBin fIx (.rd 0) (.val (vC (.int 0))))) (.val (vC (.str "apart"))))) (vAndT (vTest (vBin fEq (.rd 2) (.val (vBin fIx (.rd 0) (.val (vC (.int 2))))))) (vTest (vBin fEq (.rd 3) (.val (vC (.str "most")))))))
  (vsRet (vLst [(vTup [(vBin fIx (.rd 0) (.val (vC (.int 1)))), (vC (.str "most")), (vBin fAdd (.rd 4) (.val (vBin fIx (.rd 0) (.val (vC (.int 3))))))])]))
  vsNext) b__law_forced_3)
theorem ub__law_forced_4 {o : Option SV} {ρ : Vx.Env} {E : VEnds} : b__law_forced_4 (o :: ρ) E = (vsSeq (vsIf (vAndT (vTest (vBin fEq (.val (vBin fIx (.rd 0) (.val (vC (.int 0))))) (.val (vC (.str "apart"))))) (vAndT (vTest (vBin fEq (.rd 2) (.val (vBin fIx (.rd 0) (.val (vC (.int 2))))))) (vTest (vBin fEq (.rd 3) (.val (vC (.str "most")))))))
  (vsRet (vLst [(vTup [(vBin fIx (.rd 0) (.val (vC (.int 1)))), (vC (.str "most")), (vBin fAdd (.rd 4) (.val (vBin fIx (.rd 0) (.val (vC (.int 3))))))])]))
  vsNext) b__law_forced_3) (o :: ρ) E := rfl
def b__law_forced_5 : PSv := (vsSeq (vsIf (vAndT (vTest (vBin fEq (.val (vBin fIx (.rd 0) (.val (vC (.int 0))))) (.val (vC (.str "apart"))))) (vAndT (vTest (vBin fEq (.rd 2) (.val (vBin fIx (.rd 0) (.val (vC (.int 1))))))) (vTest (vBin fEq (.rd 3) (.val (vC (.str "least")))))))
  (vsRet (vLst [(vTup [(vBin fIx (.rd 0) (.val (vC (.int 2)))), (vC (.str "least")), (vBin fSub (.rd 4) (.val (vBin fIx (.rd 0) (.val (vC (.int 3))))))])]))
  vsNext) b__law_forced_4)
theorem ub__law_forced_5 {o : Option SV} {ρ : Vx.Env} {E : VEnds} : b__law_forced_5 (o :: ρ) E = (vsSeq (vsIf (vAndT (vTest (vBin fEq (.val (vBin fIx (.rd 0) (.val (vC (.int 0))))) (.val (vC (.str "apart"))))) (vAndT (vTest (vBin fEq (.rd 2) (.val (vBin fIx (.rd 0) (.val (vC (.int 1))))))) (vTest (vBin fEq (.rd 3) (.val (vC (.str "least")))))))
  (vsRet (vLst [(vTup [(vBin fIx (.rd 0) (.val (vC (.int 2)))), (vC (.str "least")), (vBin fSub (.rd 4) (.val (vBin fIx (.rd 0) (.val (vC (.int 3))))))])]))
  vsNext) b__law_forced_4) (o :: ρ) E := rfl
def b__law_forced_6 : PSv := (vsSeq (vsAsg (vVar 1) (vgTup 3 (vgCons (vgName 2) (vgCons (vgName 3) (vgCons (vgName 4) vgNil))))) b__law_forced_5)
theorem ub__law_forced_6 {o : Option SV} {ρ : Vx.Env} {E : VEnds} : b__law_forced_6 (o :: ρ) E = (vsSeq (vsAsg (vVar 1) (vgTup 3 (vgCons (vgName 2) (vgCons (vgName 3) (vgCons (vgName 4) vgNil))))) b__law_forced_5) (o :: ρ) E := rfl
def d__law_forced : PFn := fnRun 2 6
  b__law_forced_6
theorem ud__law_forced {args : List SV} {Q : QV} {W : WxV} : d__law_forced args Q W = (args.length = 2 ∧ b__law_forced_6 (startV 6 args) { nx := fun r => Q (.sh .non) r, rt := Q, ex := W }) := rfl
def b__law_beside_0 : PSv := (vsRet (vTup [(vVar 3), (vVar 4), (vBin fSub (.val (vBin fAdd (.rd 5) (.val (vCall d__law_draw [(.mt 0), (.val (vC (.int 7)))])))) (.val (vC (.int 3))))]))
theorem ub__law_beside_0 {o : Option SV} {ρ : Vx.Env} {E : VEnds} : b__law_beside_0 (o :: ρ) E = (vsRet (vTup [(vVar 3), (vVar 4), (vBin fSub (.val (vBin fAdd (.rd 5) (.val (vCall d__law_draw [(.mt 0), (.val (vC (.int 7)))])))) (.val (vC (.int 3))))])) (o :: ρ) E := rfl
def b__law_beside_1 : PSv := (vsSeq (vsIf (vTest (vBin fGt (.val (vCall d__law_draw [(.mt 0), (.val (vC (.int 5)))])) (.val (vC (.int 0)))))
  (vsAsg (vBin fIx (.val (vLst [(vC (.str "most")), (vC (.str "least"))])) (.val (vCB fInt1 [(.val (vBin fEq (.rd 4) (.val (vC (.str "most")))))]))) (vgName 4))
  vsNext) b__law_beside_0)
theorem ub__law_beside_1 {o : Option SV} {ρ : Vx.Env} {E : VEnds} : b__law_beside_1 (o :: ρ) E = (vsSeq (vsIf (vTest (vBin fGt (.val (vCall d__law_draw [(.mt 0), (.val (vC (.int 5)))])) (.val (vC (.int 0)))))
  (vsAsg (vBin fIx (.val (vLst [(vC (.str "most")), (vC (.str "least"))])) (.val (vCB fInt1 [(.val (vBin fEq (.rd 4) (.val (vC (.str "most")))))]))) (vgName 4))
  vsNext) b__law_beside_0) (o :: ρ) E := rfl
def b__law_beside_2 : PSv := (vsRet (vTup [(vVar 3), (vVar 4), (vCall d__law_number [(.mt 0)])]))
theorem ub__law_beside_2 {o : Option SV} {ρ : Vx.Env} {E : VEnds} : b__law_beside_2 (o :: ρ) E = (vsRet (vTup [(vVar 3), (vVar 4), (vCall d__law_number [(.mt 0)])])) (o :: ρ) E := rfl
def b__law_beside_3 : PSv := (vsSeq (vsPar 3 4 [(vBin fIx (.rd 2) (.val (vBin fAdd (.val (vC (.int 1))) (.val (vCall d__law_draw [(.mt 0), (.val (vC (.int 2)))]))))), (vCall d__law_way [(.mt 0)])]) b__law_beside_2)
theorem ub__law_beside_3 {o : Option SV} {ρ : Vx.Env} {E : VEnds} : b__law_beside_3 (o :: ρ) E = (vsSeq (vsPar 3 4 [(vBin fIx (.rd 2) (.val (vBin fAdd (.val (vC (.int 1))) (.val (vCall d__law_draw [(.mt 0), (.val (vC (.int 2)))]))))), (vCall d__law_way [(.mt 0)])]) b__law_beside_2) (o :: ρ) E := rfl
def b__law_beside_4 : PSv := (vsSeq (vsIf (vOrT (vTest (vBin fEq (.val (vBin fIx (.rd 2) (.val (vC (.int 0))))) (.val (vC (.str "bound"))))) (vTest (vBin fEq (.val (vBin fIx (.rd 2) (.val (vC (.int 0))))) (.val (vC (.str "either"))))))
  (vsSeq (vsAsg (vBin fIx (.rd 2) (.val (vBin fAdd (.val (vC (.int 1))) (.val (vCall d__law_draw [(.mt 0), (.val (vBin fSub (.val (vCB fLen [(.rd 2)])) (.val (vC (.int 1)))))]))))) (vgTup 3 (vgCons (vgName 3) (vgCons (vgName 4) (vgCons (vgName 5) vgNil))))) b__law_beside_1)
  vsNext) b__law_beside_3)
theorem ub__law_beside_4 {o : Option SV} {ρ : Vx.Env} {E : VEnds} : b__law_beside_4 (o :: ρ) E = (vsSeq (vsIf (vOrT (vTest (vBin fEq (.val (vBin fIx (.rd 2) (.val (vC (.int 0))))) (.val (vC (.str "bound"))))) (vTest (vBin fEq (.val (vBin fIx (.rd 2) (.val (vC (.int 0))))) (.val (vC (.str "either"))))))
  (vsSeq (vsAsg (vBin fIx (.rd 2) (.val (vBin fAdd (.val (vC (.int 1))) (.val (vCall d__law_draw [(.mt 0), (.val (vBin fSub (.val (vCB fLen [(.rd 2)])) (.val (vC (.int 1)))))]))))) (vgTup 3 (vgCons (vgName 3) (vgCons (vgName 4) (vgCons (vgName 5) vgNil))))) b__law_beside_1)
  vsNext) b__law_beside_3) (o :: ρ) E := rfl
def d__law_beside : PFn := fnRun 3 6
  b__law_beside_4
theorem ud__law_beside {args : List SV} {Q : QV} {W : WxV} : d__law_beside args Q W = (args.length = 3 ∧ b__law_beside_4 (startV 6 args) { nx := fun r => Q (.sh .non) r, rt := Q, ex := W }) := rfl
def b__law_far_0 : PSv := (vsRet (vTup [(vTup [(vC (.str "apart")), (vVar 2), (vVar 3), (vBin fMulI (.rd 7) (.rd 4))]), (vVar 8)]))
theorem ub__law_far_0 {o : Option SV} {ρ : Vx.Env} {E : VEnds} : b__law_far_0 (o :: ρ) E = (vsRet (vTup [(vTup [(vC (.str "apart")), (vVar 2), (vVar 3), (vBin fMulI (.rd 7) (.rd 4))]), (vVar 8)])) (o :: ρ) E := rfl
def b__law_far_1 : PSv := (vsSeq (vsIf (vTest (vBin fEq (.val (vCall d__law_draw [(.mt 0), (.val (vC (.int 2)))])) (.val (vC (.int 0)))))
  (vsRet (vTup [(vTup [(vC (.str "sum")), (vVar 2), (vVar 3), (vCall d__law_way [(.mt 0)]), (vBin fMulI (.rd 7) (.rd 4))]), (vVar 8)]))
  vsNext) b__law_far_0)
theorem ub__law_far_1 {o : Option SV} {ρ : Vx.Env} {E : VEnds} : b__law_far_1 (o :: ρ) E = (vsSeq (vsIf (vTest (vBin fEq (.val (vCall d__law_draw [(.mt 0), (.val (vC (.int 2)))])) (.val (vC (.int 0)))))
  (vsRet (vTup [(vTup [(vC (.str "sum")), (vVar 2), (vVar 3), (vCall d__law_way [(.mt 0)]), (vBin fMulI (.rd 7) (.rd 4))]), (vVar 8)]))
  vsNext) b__law_far_0) (o :: ρ) E := rfl
def b__law_far_2 : PSv := (vsSeq (vsAsg (vTup [(vBin fIx (.val (vLst [(vVar 2), (vVar 3)])) (.val (vCall d__law_draw [(.mt 0), (.val (vC (.int 2)))]))), (vCall d__law_way [(.mt 0)]), (vBin fMulI (.rd 6) (.rd 5))]) (vgName 8)) b__law_far_1)
theorem ub__law_far_2 {o : Option SV} {ρ : Vx.Env} {E : VEnds} : b__law_far_2 (o :: ρ) E = (vsSeq (vsAsg (vTup [(vBin fIx (.val (vLst [(vVar 2), (vVar 3)])) (.val (vCall d__law_draw [(.mt 0), (.val (vC (.int 2)))]))), (vCall d__law_way [(.mt 0)]), (vBin fMulI (.rd 6) (.rd 5))]) (vgName 8)) b__law_far_1) (o :: ρ) E := rfl
def b__law_far_3 : PSv := (vsSeq (vsPar 6 7 [(vBin fSub (.val (vBin fMulI (.val (vC (.int 2))) (.val (vCall d__law_draw [(.mt 0), (.val (vC (.int 2)))])))) (.val (vC (.int 1)))), (vBin fSub (.val (vBin fMulI (.val (vC (.int 2))) (.val (vCall d__law_draw [(.mt 0), (.val (vC (.int 2)))])))) (.val (vC (.int 1))))]) b__law_far_2)
theorem ub__law_far_3 {o : Option SV} {ρ : Vx.Env} {E : VEnds} : b__law_far_3 (o :: ρ) E = (vsSeq (vsPar 6 7 [(vBin fSub (.val (vBin fMulI (.val (vC (.int 2))) (.val (vCall d__law_draw [(.mt 0), (.val (vC (.int 2)))])))) (.val (vC (.int 1)))), (vBin fSub (.val (vBin fMulI (.val (vC (.int 2))) (.val (vCall d__law_draw [(.mt 0), (.val (vC (.int 2)))])))) (.val (vC (.int 1))))]) b__law_far_2) (o :: ρ) E := rfl
def b__law_far_4 : PSv := (vsSeq (vsPar 4 5 [(vBin fSub (.val (vBin fSub (.val (vBin fPow (.val (vC (.int 10))) (.val (vC (.int 12))))) (.val (vC (.int 1))))) (.val (vCall d__law_draw [(.mt 0), (.val (vC (.int 3)))]))), (vBin fSub (.val (vBin fSub (.val (vBin fPow (.val (vC (.int 10))) (.val (vC (.int 12))))) (.val (vC (.int 1))))) (.val (vCall d__law_draw [(.mt 0), (.val (vC (.int 3)))])))]) b__law_far_3)
theorem ub__law_far_4 {o : Option SV} {ρ : Vx.Env} {E : VEnds} : b__law_far_4 (o :: ρ) E = (vsSeq (vsPar 4 5 [(vBin fSub (.val (vBin fSub (.val (vBin fPow (.val (vC (.int 10))) (.val (vC (.int 12))))) (.val (vC (.int 1))))) (.val (vCall d__law_draw [(.mt 0), (.val (vC (.int 3)))]))), (vBin fSub (.val (vBin fSub (.val (vBin fPow (.val (vC (.int 10))) (.val (vC (.int 12))))) (.val (vC (.int 1))))) (.val (vCall d__law_draw [(.mt 0), (.val (vC (.int 3)))])))]) b__law_far_3) (o :: ρ) E := rfl
def b__law_far_5 : PSv := (vsSeq (vsAsg (vCall d__law_two [(.mt 0), (.rd 1)]) (vgTup 2 (vgCons (vgName 2) (vgCons (vgName 3) vgNil)))) b__law_far_4)
theorem ub__law_far_5 {o : Option SV} {ρ : Vx.Env} {E : VEnds} : b__law_far_5 (o :: ρ) E = (vsSeq (vsAsg (vCall d__law_two [(.mt 0), (.rd 1)]) (vgTup 2 (vgCons (vgName 2) (vgCons (vgName 3) vgNil)))) b__law_far_4) (o :: ρ) E := rfl
def d__law_far : PFn := fnRun 2 9
  b__law_far_5
theorem ud__law_far {args : List SV} {Q : QV} {W : WxV} : d__law_far args Q W = (args.length = 2 ∧ b__law_far_5 (startV 9 args) { nx := fun r => Q (.sh .non) r, rt := Q, ex := W }) := rfl
def b_law_0 : PSv := (vsIf (vAndT (vTest (vBin fEq (.val (vBin fIx (.rd 5) (.val (vC (.int 0))))) (.val (vC (.str "bound"))))) (vTest (vBin fNe (.rd 7) (.val (vLst [])))))
  (vsRet (vC (.bl false)))
  vsNext)
theorem ub_law_0 {o : Option SV} {ρ : Vx.Env} {E : VEnds} : b_law_0 (o :: ρ) E = (vsIf (vAndT (vTest (vBin fEq (.val (vBin fIx (.rd 5) (.val (vC (.int 0))))) (.val (vC (.str "bound"))))) (vTest (vBin fNe (.rd 7) (.val (vLst [])))))
  (vsRet (vC (.bl false)))
  vsNext) (o :: ρ) E := rfl
def b_law_1 : PSv := (vsSeq (vsIf (vTest (vBin fNe (.val (vCB fRepr [(.val (vLst [(vCall d_forced [(.rd 3), (.val (vVar 9)), (.rd 10)]), (vCall d_forced [(.rd 3), (.val (vVar 9)), (.rd 6)])]))])) (.val (vCB fRepr [(.val (vLst [(vLst [(vVar 6)]), (vLst [])]))]))))
  (vsRet (vC (.bl false)))
  vsNext) b_law_0)
theorem ub_law_1 {o : Option SV} {ρ : Vx.Env} {E : VEnds} : b_law_1 (o :: ρ) E = (vsSeq (vsIf (vTest (vBin fNe (.val (vCB fRepr [(.val (vLst [(vCall d_forced [(.rd 3), (.val (vVar 9)), (.rd 10)]), (vCall d_forced [(.rd 3), (.val (vVar 9)), (.rd 6)])]))])) (.val (vCB fRepr [(.val (vLst [(vLst [(vVar 6)]), (vLst [])]))]))))
  (vsRet (vC (.bl false)))
  vsNext) b_law_0) (o :: ρ) E := rfl
def b_law_2 : PSv := (vsSeq (vsAsg (vCall d__law_contrary [(.rd 6)]) (vgName 10)) b_law_1)
theorem ub_law_2 {o : Option SV} {ρ : Vx.Env} {E : VEnds} : b_law_2 (o :: ρ) E = (vsSeq (vsAsg (vCall d__law_contrary [(.rd 6)]) (vgName 10)) b_law_1) (o :: ρ) E := rfl
def b_law_3 : PSv := (vsSeq (vsAsg (vTup [(vC (.str "either")), (vVar 6), (vVar 6)]) (vgName 9)) b_law_2)
theorem ub_law_3 {o : Option SV} {ρ : Vx.Env} {E : VEnds} : b_law_3 (o :: ρ) E = (vsSeq (vsAsg (vTup [(vC (.str "either")), (vVar 6), (vVar 6)]) (vgName 9)) b_law_2) (o :: ρ) E := rfl
def b_law_4 : PSv := (vsSeq (vsAsg (vCall d__law_mark [(.mt 2), (.rd 3)]) (vgName 6)) b_law_3)
theorem ub_law_4 {o : Option SV} {ρ : Vx.Env} {E : VEnds} : b_law_4 (o :: ρ) E = (vsSeq (vsAsg (vCall d__law_mark [(.mt 2), (.rd 3)]) (vgName 6)) b_law_3) (o :: ρ) E := rfl
def b_law_5 : PSv := (vsSeq (vsIf (vTest (vBin fNe (.val (vCB fRepr [(.val (vCallK d_forced 0 3 [2, 1, 0] [] [] [(.rd 6), (.val (vVar 5)), (.rd 3)]))])) (.val (vCB fRepr [(.rd 7)]))))
  (vsRet (vC (.bl false)))
  vsNext) b_law_4)
theorem ub_law_5 {o : Option SV} {ρ : Vx.Env} {E : VEnds} : b_law_5 (o :: ρ) E = (vsSeq (vsIf (vTest (vBin fNe (.val (vCB fRepr [(.val (vCallK d_forced 0 3 [2, 1, 0] [] [] [(.rd 6), (.val (vVar 5)), (.rd 3)]))])) (.val (vCB fRepr [(.rd 7)]))))
  (vsRet (vC (.bl false)))
  vsNext) b_law_4) (o :: ρ) E := rfl
def b_law_6 : PSv := (vsSeq (vsDrop (vMeth 8 fAppend [(vTup [(vC (.int 0)), (vC (.str "least")), (vC (.int 0))])])) b_law_5)
theorem ub_law_6 {o : Option SV} {ρ : Vx.Env} {E : VEnds} : b_law_6 (o :: ρ) E = (vsSeq (vsDrop (vMeth 8 fAppend [(vTup [(vC (.int 0)), (vC (.str "least")), (vC (.int 0))])])) b_law_5) (o :: ρ) E := rfl
def b_law_7 : PSv := (vsSeq (vsIf (vTest (vBin fNe (.val (vCB fRepr [(.rd 8)])) (.val (vCB fRepr [(.rd 7)]))))
  (vsRet (vC (.bl false)))
  vsNext) b_law_6)
theorem ub_law_7 {o : Option SV} {ρ : Vx.Env} {E : VEnds} : b_law_7 (o :: ρ) E = (vsSeq (vsIf (vTest (vBin fNe (.val (vCB fRepr [(.rd 8)])) (.val (vCB fRepr [(.rd 7)]))))
  (vsRet (vC (.bl false)))
  vsNext) b_law_6) (o :: ρ) E := rfl
def b_law_8 : PSv := (vsSeq (vsAsg (vCall d_forced [(.rd 3), (.val (vVar 5)), (.rd 6)]) (vgName 8)) b_law_7)
theorem ub_law_8 {o : Option SV} {ρ : Vx.Env} {E : VEnds} : b_law_8 (o :: ρ) E = (vsSeq (vsAsg (vCall d_forced [(.rd 3), (.val (vVar 5)), (.rd 6)]) (vgName 8)) b_law_7) (o :: ρ) E := rfl
def b_law_9 : PSv := (vsSeq (vsAsg (vCall d__law_forced [(.rd 5), (.val (vVar 6))]) (vgName 7)) b_law_8)
theorem ub_law_9 {o : Option SV} {ρ : Vx.Env} {E : VEnds} : b_law_9 (o :: ρ) E = (vsSeq (vsAsg (vCall d__law_forced [(.rd 5), (.val (vVar 6))]) (vgName 7)) b_law_8) (o :: ρ) E := rfl
def b_law_10 : PSv := (vsSeq (vsIf (vAndT (vTest (vBin fGt (.rd 3) (.val (vC (.int 1))))) (vTest (vBin fEq (.val (vCall d__law_draw [(.mt 2), (.val (vC (.int 6)))])) (.val (vC (.int 0))))))
  (vsAsg (vCall d__law_far [(.mt 2), (.rd 3)]) (vgTup 2 (vgCons (vgName 5) (vgCons (vgName 6) vgNil))))
  vsNext) b_law_9)
theorem ub_law_10 {o : Option SV} {ρ : Vx.Env} {E : VEnds} : b_law_10 (o :: ρ) E = (vsSeq (vsIf (vAndT (vTest (vBin fGt (.rd 3) (.val (vC (.int 1))))) (vTest (vBin fEq (.val (vCall d__law_draw [(.mt 2), (.val (vC (.int 6)))])) (.val (vC (.int 0))))))
  (vsAsg (vCall d__law_far [(.mt 2), (.rd 3)]) (vgTup 2 (vgCons (vgName 5) (vgCons (vgName 6) vgNil))))
  vsNext) b_law_9) (o :: ρ) E := rfl
def b_law_11 : PSv := (vsSeq (vsIf (vTest (vBin fGt (.rd 4) (.val (vC (.int 0)))))
  (vsAsg (vCall d__law_beside [(.mt 2), (.rd 3), (.rd 5)]) (vgName 6))
  vsNext) b_law_10)
theorem ub_law_11 {o : Option SV} {ρ : Vx.Env} {E : VEnds} : b_law_11 (o :: ρ) E = (vsSeq (vsIf (vTest (vBin fGt (.rd 4) (.val (vC (.int 0)))))
  (vsAsg (vCall d__law_beside [(.mt 2), (.rd 3), (.rd 5)]) (vgName 6))
  vsNext) b_law_10) (o :: ρ) E := rfl
def b_law_12 : PSv := (vsSeq (vsAsg (vCall d__law_mark [(.mt 2), (.rd 3)]) (vgName 6)) b_law_11)
theorem ub_law_12 {o : Option SV} {ρ : Vx.Env} {E : VEnds} : b_law_12 (o :: ρ) E = (vsSeq (vsAsg (vCall d__law_mark [(.mt 2), (.rd 3)]) (vgName 6)) b_law_11) (o :: ρ) E := rfl
def b_law_13 : PSv := (vsSeq (vsAsg (vCall d__law_term [(.mt 2), (.rd 3)]) (vgName 5)) b_law_12)
theorem ub_law_13 {o : Option SV} {ρ : Vx.Env} {E : VEnds} : b_law_13 (o :: ρ) E = (vsSeq (vsAsg (vCall d__law_term [(.mt 2), (.rd 3)]) (vgName 5)) b_law_12) (o :: ρ) E := rfl
def b_law_14 : PSv := (vsSeq (vsPar 3 4 [(vBin fAdd (.val (vC (.int 1))) (.val (vCall d__law_draw [(.mt 2), (.val (vC (.int 5)))]))), (vCall d__law_draw [(.mt 2), (.val (vC (.int 4)))])]) b_law_13)
theorem ub_law_14 {o : Option SV} {ρ : Vx.Env} {E : VEnds} : b_law_14 (o :: ρ) E = (vsSeq (vsPar 3 4 [(vBin fAdd (.val (vC (.int 1))) (.val (vCall d__law_draw [(.mt 2), (.val (vC (.int 5)))]))), (vCall d__law_draw [(.mt 2), (.val (vC (.int 4)))])]) b_law_13) (o :: ρ) E := rfl
def b_law_15 : PSv := (vsSeq (vsAsg (vCall d__law_bag [(.rd 1)]) (vgName 2)) b_law_14)
theorem ub_law_15 {o : Option SV} {ρ : Vx.Env} {E : VEnds} : b_law_15 (o :: ρ) E = (vsSeq (vsAsg (vCall d__law_bag [(.rd 1)]) (vgName 2)) b_law_14) (o :: ρ) E := rfl
def b_law_16 : PSv := (vsSeq (vsFor (srcV (vBin fAdd (.val (vLst [(vC (.int 5091827364554637281909182736455463728190918273645546372819091827364554))])) (.rd 0))) (vgName 1)
  b_law_15) (vsRet (vC (.bl true))))
theorem ub_law_16 {o : Option SV} {ρ : Vx.Env} {E : VEnds} : b_law_16 (o :: ρ) E = (vsSeq (vsFor (srcV (vBin fAdd (.val (vLst [(vC (.int 5091827364554637281909182736455463728190918273645546372819091827364554))])) (.rd 0))) (vgName 1)
  b_law_15) (vsRet (vC (.bl true)))) (o :: ρ) E := rfl
def d_law : PFn := fnRun 1 11
  b_law_16
theorem ud_law {args : List SV} {Q : QV} {W : WxV} : d_law args Q W = (args.length = 1 ∧ b_law_16 (startV 11 args) { nx := fun r => Q (.sh .non) r, rt := Q, ex := W }) := rfl
def e_is_integer : He.DefD := ⟨("is_integer", none), "is_integer", "is_integer", defArgs s_is_integer, defBody s_is_integer, defScope s_is_integer, [], []⟩
def e_fits_way : He.DefD := ⟨("fits_way", none), "fits_way", "fits_way", defArgs s_fits_way, defBody s_fits_way, defScope s_fits_way, [], []⟩
def e_fits_gauge : He.DefD := ⟨("fits_gauge", none), "fits_gauge", "fits_gauge", defArgs s_fits_gauge, defBody s_fits_gauge, defScope s_fits_gauge, [], []⟩
def e_fits_bound : He.DefD := ⟨("fits_bound", none), "fits_bound", "fits_bound", defArgs s_fits_bound, defBody s_fits_bound, defScope s_fits_bound, [], []⟩
def e_fits_two_gauges : He.DefD := ⟨("fits_two_gauges", none), "fits_two_gauges", "fits_two_gauges", defArgs s_fits_two_gauges, defBody s_fits_two_gauges, defScope s_fits_two_gauges, [], []⟩
def e_fits_rule : He.DefD := ⟨("fits_rule", none), "fits_rule", "fits_rule", defArgs s_fits_rule, defBody s_fits_rule, defScope s_fits_rule, [], []⟩
def e_need_gauges : He.DefD := ⟨("need_gauges", none), "need_gauges", "need_gauges", defArgs s_need_gauges, defBody s_need_gauges, defScope s_need_gauges, [], []⟩
def e_need_bound : He.DefD := ⟨("need_bound", none), "need_bound", "need_bound", defArgs s_need_bound, defBody s_need_bound, defScope s_need_bound, [], []⟩
def e_need_rule : He.DefD := ⟨("need_rule", none), "need_rule", "need_rule", defArgs s_need_rule, defBody s_need_rule, defScope s_need_rule, [], []⟩
def e_side_of : He.DefD := ⟨("side_of", none), "side_of", "side_of", defArgs s_side_of, defBody s_side_of, defScope s_side_of, [], []⟩
def e_level_of : He.DefD := ⟨("level_of", none), "level_of", "level_of", defArgs s_level_of, defBody s_level_of, defScope s_level_of, [], []⟩
def e_bound_at : He.DefD := ⟨("bound_at", none), "bound_at", "bound_at", defArgs s_bound_at, defBody s_bound_at, defScope s_bound_at, [], []⟩
def e_links_of : He.DefD := ⟨("links_of", none), "links_of", "links_of", defArgs s_links_of, defBody s_links_of, defScope s_links_of, [], []⟩
def e_gates_of : He.DefD := ⟨("gates_of", none), "gates_of", "gates_of", defArgs s_gates_of, defBody s_gates_of, defScope s_gates_of, [], []⟩
def e_forced_by : He.DefD := ⟨("forced_by", none), "forced_by", "forced_by", defArgs s_forced_by, defBody s_forced_by, defScope s_forced_by, [], []⟩
def e_forced : He.DefD := ⟨("forced", none), "forced", "forced", defArgs s_forced, defBody s_forced, defScope s_forced, [], []⟩
def e__law_bag : He.DefD := ⟨("_law_bag", none), "_law_bag", "_law_bag", defArgs s__law_bag, defBody s__law_bag, defScope s__law_bag, [], []⟩
def e__law_draw : He.DefD := ⟨("_law_draw", none), "_law_draw", "_law_draw", defArgs s__law_draw, defBody s__law_draw, defScope s__law_draw, [], []⟩
def e__law_number : He.DefD := ⟨("_law_number", none), "_law_number", "_law_number", defArgs s__law_number, defBody s__law_number, defScope s__law_number, [], []⟩
def e__law_way : He.DefD := ⟨("_law_way", none), "_law_way", "_law_way", defArgs s__law_way, defBody s__law_way, defScope s__law_way, [], []⟩
def e__law_mark : He.DefD := ⟨("_law_mark", none), "_law_mark", "_law_mark", defArgs s__law_mark, defBody s__law_mark, defScope s__law_mark, [], []⟩
def e__law_two : He.DefD := ⟨("_law_two", none), "_law_two", "_law_two", defArgs s__law_two, defBody s__law_two, defScope s__law_two, [], []⟩
def e__law_term : He.DefD := ⟨("_law_term", none), "_law_term", "_law_term", defArgs s__law_term, defBody s__law_term, defScope s__law_term, [], []⟩
def e__law_contrary : He.DefD := ⟨("_law_contrary", none), "_law_contrary", "_law_contrary", defArgs s__law_contrary, defBody s__law_contrary, defScope s__law_contrary, [], []⟩
def e__law_oppose : He.DefD := ⟨("_law_oppose", none), "_law_oppose", "_law_oppose", defArgs s__law_oppose, defBody s__law_oppose, defScope s__law_oppose, [], []⟩
def e__law_forced : He.DefD := ⟨("_law_forced", none), "_law_forced", "_law_forced", defArgs s__law_forced, defBody s__law_forced, defScope s__law_forced, [], []⟩
def e__law_beside : He.DefD := ⟨("_law_beside", none), "_law_beside", "_law_beside", defArgs s__law_beside, defBody s__law_beside, defScope s__law_beside, [], []⟩
def e__law_far : He.DefD := ⟨("_law_far", none), "_law_far", "_law_far", defArgs s__law_far, defBody s__law_far, defScope s__law_far, [], []⟩
def e_law : He.DefD := ⟨("law", none), "law", "law", defArgs s_law, defBody s_law, defScope s_law, [], []⟩
def fa : List He.Fa := [.free "isinstance", .free "int", .free "bool", .free "str", .glo "is_integer", .free "tuple", .free "len", .glo "fits_gauge", .glo "fits_way", .glo "fits_bound", .glo "fits_two_gauges", .exc "InvalidCount", .glo "InvalidCount", .exc "InvalidBound", .glo "InvalidBound", .glo "fits_rule", .exc "InvalidRule", .glo "InvalidRule", .free "enumerate", .glo "side_of", .glo "level_of", .glo "links_of", .glo "bound_at", .glo "gates_of", .glo "need_gauges", .glo "need_rule", .glo "need_bound", .glo "forced_by", .free "max", .glo "_law_draw", .glo "_law_way", .glo "_law_number", .glo "_law_mark", .glo "_law_two", .glo "_law_oppose", .free "sorted", .free "set", .glo "_law_bag", .glo "_law_term", .glo "_law_beside", .glo "_law_far", .glo "_law_forced", .glo "forced", .free "repr", .glo "_law_contrary", .glo "law"]
def cs : List (Str × D) := [("BOTH_WAYS", .tup [.str "least", .str "most"]), ("MOST_GAUGES", .int 5)]
def fn : List He.DefD := [e_is_integer, e_fits_way, e_fits_gauge, e_fits_bound, e_fits_two_gauges, e_fits_rule, e_need_gauges, e_need_bound, e_need_rule, e_side_of, e_level_of, e_bound_at, e_links_of, e_gates_of, e_forced_by, e_forced, e__law_bag, e__law_draw, e__law_number, e__law_way, e__law_mark, e__law_two, e__law_term, e__law_contrary, e__law_oppose, e__law_forced, e__law_beside, e__law_far, e_law]
section
variable {P : Program} {w : World} {K : PySem.W.Frag} {mg : Str → Option Value} {base h : Heap}
theorem b_forced_0_bound_rule_gauges {fd : FuncData} (F : FunD K "forced" "forced" (defArgs s_forced) (defBody s_forced) (defScope s_forced) (e_forced.dvs K) (e_forced.kws K) (He.ga K "forced") fd) : BndG K fd ["gauges", "rule", "bound"] 0 ["bound", "rule", "gauges"] [2, 1, 0] (([] : List D).map dfV) := by
  exact bndG0 F fun _ _ _ _ _ _ us ws h1 h2 => match us, ws, h1, h2 with | [], [_, _, _], _, _ => rfl
theorem v_is_integer (inK : K.In h) (ns : h.Ns mainGlobals mg) (c : SaysX fa cs fn K) : ∃ fd, FunD K "is_integer" "is_integer" (defArgs s_is_integer) (defBody s_is_integer) (defScope s_is_integer) (e_is_integer.dvs K) (e_is_integer.kws K) (He.ga K "is_integer") fd ∧ FnV P w K mg base 1 (He.ga K "is_integer") fd ["value"] d_is_integer := by
  obtain ⟨fd, F⟩ := c.fun_ 0 (d := e_is_integer) rfl
  refine ⟨fd, F, fnv_by (N := ["value"]) (ps := ["value"]) F ⟨rfl, rfl, rfl, by decide +kernel, rfl, by decide +kernel, by decide +kernel⟩ (by decide) fun cdv A outer s H E G gd hr => ?_⟩
  have ndN : (["value"] : List Str).Nodup := by decide +kernel
  have hu64 := room64 hr
  have hu65 := room65 hr
  have hu66 := room66 hr
  exact (vss_one (vs_ret (ve_and (ve_isi .int rfl (He.free_ok inK ns (c.fact 0 rfl)) rfl (He.free_ok inK ns (c.fact 1 rfl)) (by decide +kernel) (vo_rd (pv 0))) (ve_one (ve_not (ve_isi .bool rfl (He.free_ok inK ns (c.fact 0 rfl)) rfl (He.free_ok inK ns (c.fact 2 rfl)) (by decide +kernel) (vo_rd (pv 0))))))))
theorem v_fits_way (inK : K.In h) (ns : h.Ns mainGlobals mg) (c : SaysX fa cs fn K) : ∃ fd, FunD K "fits_way" "fits_way" (defArgs s_fits_way) (defBody s_fits_way) (defScope s_fits_way) (e_fits_way.dvs K) (e_fits_way.kws K) (He.ga K "fits_way") fd ∧ FnV P w K mg base 1 (He.ga K "fits_way") fd ["value"] d_fits_way := by
  obtain ⟨fd, F⟩ := c.fun_ 1 (d := e_fits_way) rfl
  refine ⟨fd, F, fnv_by (N := ["value"]) (ps := ["value"]) F ⟨rfl, rfl, rfl, by decide +kernel, rfl, by decide +kernel, by decide +kernel⟩ (by decide) fun cdv A outer s H E G gd hr => ?_⟩
  have ndN : (["value"] : List Str).Nodup := by decide +kernel
  have hu64 := room64 hr
  have hu65 := room65 hr
  have hu66 := room66 hr
  exact (vss_one (vs_ret (ve_and (ve_isi .str rfl (He.free_ok inK ns (c.fact 0 rfl)) rfl (He.free_ok inK ns (c.fact 3 rfl)) (by decide +kernel) (vo_rd (pv 0))) (ve_one (ve_cmp (op_inV hu65) rfl ov_in fInG_mono (vo_rd (pv 0)) (vo_val (ve_con (conG_ok inK ns (c.con 0 rfl)) rfl)))))))
theorem v_fits_gauge (inK : K.In h) (ns : h.Ns mainGlobals mg) (c : SaysX fa cs fn K) : ∃ fd, FunD K "fits_gauge" "fits_gauge" (defArgs s_fits_gauge) (defBody s_fits_gauge) (defScope s_fits_gauge) (e_fits_gauge.dvs K) (e_fits_gauge.kws K) (He.ga K "fits_gauge") fd ∧ FnV P w K mg base 2 (He.ga K "fits_gauge") fd ["gauges", "value"] d_fits_gauge := by
  obtain ⟨fd, F⟩ := c.fun_ 2 (d := e_fits_gauge) rfl
  obtain ⟨fd_is_integer, F_is_integer, V_is_integer⟩ := v_is_integer (P := P) (w := w) (base := base) inK ns c
  have B_is_integer : Binds K fd_is_integer ["value"] [] := FunD.bindsN F_is_integer fun _ _ _ _ _ _ us hl => match us, hl with | [_], _ => rfl
  refine ⟨fd, F, fnv_by (N := ["gauges", "value"]) (ps := ["gauges", "value"]) F ⟨rfl, rfl, rfl, by decide +kernel, rfl, by decide +kernel, by decide +kernel⟩ (by decide) fun cdv A outer s H E G gd hr => ?_⟩
  have ndN : (["gauges", "value"] : List Str).Nodup := by decide +kernel
  have hu64 := room64 hr
  have hu65 := room65 hr
  have hu66 := room66 hr
  exact (vss_one (vs_ret (ve_and (ve_call V_is_integer gd (hr.mono (by decide)) rfl (He.glo_ok inK ns (c.fact 4 rfl)) F_is_integer.kp (B_is_integer : Binds K _ _ _) (va_cons (vo_rd (pv 1)) va_nil)) (ve_one (ve_chain op_le op_lt ob_IB ov_IB fIB_mono fIB_mono (vo_val ve_int) (vo_rd (pv 1)) (vo_rd (pv 0)))))))
theorem v_fits_bound (inK : K.In h) (ns : h.Ns mainGlobals mg) (c : SaysX fa cs fn K) : ∃ fd, FunD K "fits_bound" "fits_bound" (defArgs s_fits_bound) (defBody s_fits_bound) (defScope s_fits_bound) (e_fits_bound.dvs K) (e_fits_bound.kws K) (He.ga K "fits_bound") fd ∧ FnV P w K mg base 3 (He.ga K "fits_bound") fd ["gauges", "value"] d_fits_bound := by
  obtain ⟨fd, F⟩ := c.fun_ 3 (d := e_fits_bound) rfl
  obtain ⟨fd_fits_gauge, F_fits_gauge, V_fits_gauge⟩ := v_fits_gauge (P := P) (w := w) (base := base) inK ns c
  have B_fits_gauge : Binds K fd_fits_gauge ["gauges", "value"] [] := FunD.bindsN F_fits_gauge fun _ _ _ _ _ _ us hl => match us, hl with | [_, _], _ => rfl
  obtain ⟨fd_fits_way, F_fits_way, V_fits_way⟩ := v_fits_way (P := P) (w := w) (base := base) inK ns c
  have B_fits_way : Binds K fd_fits_way ["value"] [] := FunD.bindsN F_fits_way fun _ _ _ _ _ _ us hl => match us, hl with | [_], _ => rfl
  obtain ⟨fd_is_integer, F_is_integer, V_is_integer⟩ := v_is_integer (P := P) (w := w) (base := base) inK ns c
  have B_is_integer : Binds K fd_is_integer ["value"] [] := FunD.bindsN F_is_integer fun _ _ _ _ _ _ us hl => match us, hl with | [_], _ => rfl
  refine ⟨fd, F, fnv_by (N := ["gauges", "value"]) (ps := ["gauges", "value"]) F ⟨rfl, rfl, rfl, by decide +kernel, rfl, by decide +kernel, by decide +kernel⟩ (by decide) fun cdv A outer s H E G gd hr => ?_⟩
  have ndN : (["gauges", "value"] : List Str).Nodup := by decide +kernel
  have hu64 := room64 hr
  have hu65 := room65 hr
  have hu66 := room66 hr
  exact (vss_cons (vs_if (VW.vt (vw_or (vt_not (vt_tru (vo_val (ve_isi .tuple rfl (He.free_ok inK ns (c.fact 0 rfl)) rfl (He.free_ok inK ns (c.fact 5 rfl)) (by decide +kernel) (vo_rd (pv 1)))))) (vw_or1 (vt_cmp (op_ne.or (op_neD hu64)) (nomark _) ov_ne fEqG_mono (vo_val (ve_callB cr_lenV cv_len fLen_mono rfl (He.free_ok inK ns (c.fact 6 rfl)) (by decide +kernel) (va_cons (vo_rd (pv 1)) va_nil))) (vo_val ve_int)))))
  (vss_one (vs_ret ve_bl))
  vss_nil)
  (vss_one (vs_ret (ve_and (ve_call V_fits_gauge gd (hr.mono (by decide)) rfl (He.glo_ok inK ns (c.fact 7 rfl)) F_fits_gauge.kp (B_fits_gauge : Binds K _ _ _) (va_cons (vo_rd (pv 0)) (va_cons (vo_val (ve_ix (vo_rd (pv 1)) (vo_val ve_int) (by intro _ _; rfl))) va_nil))) (ve_and (ve_call V_fits_way gd (hr.mono (by decide)) rfl (He.glo_ok inK ns (c.fact 8 rfl)) F_fits_way.kp (B_fits_way : Binds K _ _ _) (va_cons (vo_val (ve_ix (vo_rd (pv 1)) (vo_val ve_int) (by intro _ _; rfl))) va_nil)) (ve_one (ve_call V_is_integer gd (hr.mono (by decide)) rfl (He.glo_ok inK ns (c.fact 4 rfl)) F_is_integer.kp (B_is_integer : Binds K _ _ _) (va_cons (vo_val (ve_ix (vo_rd (pv 1)) (vo_val ve_int) (by intro _ _; rfl))) va_nil))))))))
theorem v_fits_two_gauges (inK : K.In h) (ns : h.Ns mainGlobals mg) (c : SaysX fa cs fn K) : ∃ fd, FunD K "fits_two_gauges" "fits_two_gauges" (defArgs s_fits_two_gauges) (defBody s_fits_two_gauges) (defScope s_fits_two_gauges) (e_fits_two_gauges.dvs K) (e_fits_two_gauges.kws K) (He.ga K "fits_two_gauges") fd ∧ FnV P w K mg base 3 (He.ga K "fits_two_gauges") fd ["gauges", "value"] d_fits_two_gauges := by
  obtain ⟨fd, F⟩ := c.fun_ 4 (d := e_fits_two_gauges) rfl
  obtain ⟨fd_fits_gauge, F_fits_gauge, V_fits_gauge⟩ := v_fits_gauge (P := P) (w := w) (base := base) inK ns c
  have B_fits_gauge : Binds K fd_fits_gauge ["gauges", "value"] [] := FunD.bindsN F_fits_gauge fun _ _ _ _ _ _ us hl => match us, hl with | [_, _], _ => rfl
  refine ⟨fd, F, fnv_by (N := ["gauges", "value"]) (ps := ["gauges", "value"]) F ⟨rfl, rfl, rfl, by decide +kernel, rfl, by decide +kernel, by decide +kernel⟩ (by decide) fun cdv A outer s H E G gd hr => ?_⟩
  have ndN : (["gauges", "value"] : List Str).Nodup := by decide +kernel
  have hu64 := room64 hr
  have hu65 := room65 hr
  have hu66 := room66 hr
  exact (vss_cons (vs_if (VW.vt (vw_or (vt_not (vt_tru (vo_val (ve_call V_fits_gauge gd (hr.mono (by decide)) rfl (He.glo_ok inK ns (c.fact 7 rfl)) F_fits_gauge.kp (B_fits_gauge : Binds K _ _ _) (va_cons (vo_rd (pv 0)) (va_cons (vo_val (ve_ix (vo_rd (pv 1)) (vo_val ve_int) (by intro _ _; rfl))) va_nil)))))) (vw_or1 (vt_not (vt_tru (vo_val (ve_call V_fits_gauge gd (hr.mono (by decide)) rfl (He.glo_ok inK ns (c.fact 7 rfl)) F_fits_gauge.kp (B_fits_gauge : Binds K _ _ _) (va_cons (vo_rd (pv 0)) (va_cons (vo_val (ve_ix (vo_rd (pv 1)) (vo_val ve_int) (by intro _ _; rfl))) va_nil)))))))))
  (vss_one (vs_ret ve_bl))
  vss_nil)
  (vss_one (vs_ret (ve_cmp (op_ne.or (op_neD hu64)) (nomark _) ov_ne fEqG_mono (vo_val (ve_ix (vo_rd (pv 1)) (vo_val ve_int) (by intro _ _; rfl))) (vo_val (ve_ix (vo_rd (pv 1)) (vo_val ve_int) (by intro _ _; rfl)))))))
theorem v_fits_rule (inK : K.In h) (ns : h.Ns mainGlobals mg) (c : SaysX fa cs fn K) : ∃ fd, FunD K "fits_rule" "fits_rule" (defArgs s_fits_rule) (defBody s_fits_rule) (defScope s_fits_rule) (e_fits_rule.dvs K) (e_fits_rule.kws K) (He.ga K "fits_rule") fd ∧ FnV P w K mg base 4 (He.ga K "fits_rule") fd ["gauges", "value"] d_fits_rule := by
  obtain ⟨fd, F⟩ := c.fun_ 5 (d := e_fits_rule) rfl
  obtain ⟨fd_fits_bound, F_fits_bound, V_fits_bound⟩ := v_fits_bound (P := P) (w := w) (base := base) inK ns c
  have B_fits_bound : Binds K fd_fits_bound ["gauges", "value"] [] := FunD.bindsN F_fits_bound fun _ _ _ _ _ _ us hl => match us, hl with | [_, _], _ => rfl
  obtain ⟨fd_fits_two_gauges, F_fits_two_gauges, V_fits_two_gauges⟩ := v_fits_two_gauges (P := P) (w := w) (base := base) inK ns c
  have B_fits_two_gauges : Binds K fd_fits_two_gauges ["gauges", "value"] [] := FunD.bindsN F_fits_two_gauges fun _ _ _ _ _ _ us hl => match us, hl with | [_, _], _ => rfl
  obtain ⟨fd_is_integer, F_is_integer, V_is_integer⟩ := v_is_integer (P := P) (w := w) (base := base) inK ns c
  have B_is_integer : Binds K fd_is_integer ["value"] [] := FunD.bindsN F_is_integer fun _ _ _ _ _ _ us hl => match us, hl with | [_], _ => rfl
  obtain ⟨fd_fits_way, F_fits_way, V_fits_way⟩ := v_fits_way (P := P) (w := w) (base := base) inK ns c
  have B_fits_way : Binds K fd_fits_way ["value"] [] := FunD.bindsN F_fits_way fun _ _ _ _ _ _ us hl => match us, hl with | [_], _ => rfl
  refine ⟨fd, F, fnv_by (N := ["gauges", "value", "word"]) (ps := ["gauges", "value"]) F ⟨rfl, rfl, rfl, by decide +kernel, rfl, by decide +kernel, by decide +kernel⟩ (by decide) fun cdv A outer s H E G gd hr => ?_⟩
  have ndN : (["gauges", "value", "word"] : List Str).Nodup := by decide +kernel
  have hu64 := room64 hr
  have hu65 := room65 hr
  have hu66 := room66 hr
  exact (vss_cons (vs_if (VW.vt (vw_or (vt_not (vt_tru (vo_val (ve_isi .tuple rfl (He.free_ok inK ns (c.fact 0 rfl)) rfl (He.free_ok inK ns (c.fact 5 rfl)) (by decide +kernel) (vo_rd (pv 1)))))) (vw_or (vt_cmp (op_eq.or (op_eqD hu64)) (nomark _) ov_eq fEqG_mono (vo_rd (pv 1)) (vo_val (ve_tup vl_nil))) (vw_or1 (vt_not (vt_tru (vo_val (ve_isi .str rfl (He.free_ok inK ns (c.fact 0 rfl)) rfl (He.free_ok inK ns (c.fact 3 rfl)) (by decide +kernel) (vo_val (ve_ix (vo_rd (pv 1)) (vo_val ve_int) (by intro _ _; rfl)))))))))))
  (vss_one (vs_ret ve_bl))
  vss_nil)
  (vss_cons (vs_set ndN rfl (by first | exact Or.inl rfl | exact Or.inr rfl) (ve_ix (vo_rd (pv 1)) (vo_val ve_int) (by intro _ _; rfl)))
  (vss_cons (vs_if (vt_cmp (op_eq.or (op_eqD hu64)) (nomark _) ov_eq fEqG_mono (vo_rd (pv 2)) (vo_val ve_str))
  (vss_one (vs_ret (ve_and (ve_cmp (op_eq.or (op_eqD hu64)) (nomark _) ov_eq fEqG_mono (vo_val (ve_callB cr_lenV cv_len fLen_mono rfl (He.free_ok inK ns (c.fact 6 rfl)) (by decide +kernel) (va_cons (vo_rd (pv 1)) va_nil))) (vo_val ve_int)) (ve_one (ve_call V_fits_bound gd (hr.mono (by decide)) rfl (He.glo_ok inK ns (c.fact 9 rfl)) F_fits_bound.kp (B_fits_bound : Binds K _ _ _) (va_cons (vo_rd (pv 0)) (va_cons (vo_val (ve_ix (vo_rd (pv 1)) (vo_val ve_int) (by intro _ _; rfl))) va_nil)))))))
  vss_nil)
  (vss_cons (vs_if (vt_cmp (op_eq.or (op_eqD hu64)) (nomark _) ov_eq fEqG_mono (vo_rd (pv 2)) (vo_val ve_str))
  (vss_one (vs_ret (ve_and (ve_cmp (op_eq.or (op_eqD hu64)) (nomark _) ov_eq fEqG_mono (vo_val (ve_callB cr_lenV cv_len fLen_mono rfl (He.free_ok inK ns (c.fact 6 rfl)) (by decide +kernel) (va_cons (vo_rd (pv 1)) va_nil))) (vo_val ve_int)) (ve_and (ve_call V_fits_two_gauges gd (hr.mono (by decide)) rfl (He.glo_ok inK ns (c.fact 10 rfl)) F_fits_two_gauges.kp (B_fits_two_gauges : Binds K _ _ _) (va_cons (vo_rd (pv 0)) (va_cons (vo_rd (pv 1)) va_nil))) (ve_one (ve_call V_is_integer gd (hr.mono (by decide)) rfl (He.glo_ok inK ns (c.fact 4 rfl)) F_is_integer.kp (B_is_integer : Binds K _ _ _) (va_cons (vo_val (ve_ix (vo_rd (pv 1)) (vo_val ve_int) (by intro _ _; rfl))) va_nil)))))))
  vss_nil)
  (vss_cons (vs_if (vt_cmp (op_eq.or (op_eqD hu64)) (nomark _) ov_eq fEqG_mono (vo_rd (pv 2)) (vo_val ve_str))
  (vss_cons (vs_if (VW.vt (vw_or (vt_cmp (op_ne.or (op_neD hu64)) (nomark _) ov_ne fEqG_mono (vo_val (ve_callB cr_lenV cv_len fLen_mono rfl (He.free_ok inK ns (c.fact 6 rfl)) (by decide +kernel) (va_cons (vo_rd (pv 1)) va_nil))) (vo_val ve_int)) (vw_or (vt_not (vt_tru (vo_val (ve_call V_fits_two_gauges gd (hr.mono (by decide)) rfl (He.glo_ok inK ns (c.fact 10 rfl)) F_fits_two_gauges.kp (B_fits_two_gauges : Binds K _ _ _) (va_cons (vo_rd (pv 0)) (va_cons (vo_rd (pv 1)) va_nil)))))) (vw_or1 (vt_cmp op_gt (nomark _) ov_IB fIB_mono (vo_val (ve_ix (vo_rd (pv 1)) (vo_val ve_int) (by intro _ _; rfl))) (vo_val (ve_ix (vo_rd (pv 1)) (vo_val ve_int) (by intro _ _; rfl))))))))
  (vss_one (vs_ret ve_bl))
  vss_nil)
  (vss_one (vs_ret (ve_and (ve_call V_fits_way gd (hr.mono (by decide)) rfl (He.glo_ok inK ns (c.fact 8 rfl)) F_fits_way.kp (B_fits_way : Binds K _ _ _) (va_cons (vo_val (ve_ix (vo_rd (pv 1)) (vo_val ve_int) (by intro _ _; rfl))) va_nil)) (ve_one (ve_call V_is_integer gd (hr.mono (by decide)) rfl (He.glo_ok inK ns (c.fact 4 rfl)) F_is_integer.kp (B_is_integer : Binds K _ _ _) (va_cons (vo_val (ve_ix (vo_rd (pv 1)) (vo_val ve_int) (by intro _ _; rfl))) va_nil)))))))
  vss_nil)
  (vss_cons (vs_if (vt_cmp (op_eq.or (op_eqD hu64)) (nomark _) ov_eq fEqG_mono (vo_rd (pv 2)) (vo_val ve_str))
  (vss_one (vs_ret (ve_and (ve_cmp (op_eq.or (op_eqD hu64)) (nomark _) ov_eq fEqG_mono (vo_val (ve_callB cr_lenV cv_len fLen_mono rfl (He.free_ok inK ns (c.fact 6 rfl)) (by decide +kernel) (va_cons (vo_rd (pv 1)) va_nil))) (vo_val ve_int)) (ve_and (ve_call V_fits_bound gd (hr.mono (by decide)) rfl (He.glo_ok inK ns (c.fact 9 rfl)) F_fits_bound.kp (B_fits_bound : Binds K _ _ _) (va_cons (vo_rd (pv 0)) (va_cons (vo_val (ve_ix (vo_rd (pv 1)) (vo_val ve_int) (by intro _ _; rfl))) va_nil))) (ve_one (ve_call V_fits_bound gd (hr.mono (by decide)) rfl (He.glo_ok inK ns (c.fact 9 rfl)) F_fits_bound.kp (B_fits_bound : Binds K _ _ _) (va_cons (vo_rd (pv 0)) (va_cons (vo_val (ve_ix (vo_rd (pv 1)) (vo_val ve_int) (by intro _ _; rfl))) va_nil))))))))
  vss_nil)
  (vss_one (vs_ret ve_bl))))))))
theorem v_need_gauges (inK : K.In h) (ns : h.Ns mainGlobals mg) (c : SaysX fa cs fn K) : ∃ fd, FunD K "need_gauges" "need_gauges" (defArgs s_need_gauges) (defBody s_need_gauges) (defScope s_need_gauges) (e_need_gauges.dvs K) (e_need_gauges.kws K) (He.ga K "need_gauges") fd ∧ FnV P w K mg base 2 (He.ga K "need_gauges") fd ["gauges"] d_need_gauges := by
  obtain ⟨fd, F⟩ := c.fun_ 6 (d := e_need_gauges) rfl
  obtain ⟨fd_is_integer, F_is_integer, V_is_integer⟩ := v_is_integer (P := P) (w := w) (base := base) inK ns c
  have B_is_integer : Binds K fd_is_integer ["value"] [] := FunD.bindsN F_is_integer fun _ _ _ _ _ _ us hl => match us, hl with | [_], _ => rfl
  refine ⟨fd, F, fnv_by (N := ["gauges"]) (ps := ["gauges"]) F ⟨rfl, rfl, rfl, by decide +kernel, rfl, by decide +kernel, by decide +kernel⟩ (by decide) fun cdv A outer s H E G gd hr => ?_⟩
  have ndN : (["gauges"] : List Str).Nodup := by decide +kernel
  have hu64 := room64 hr
  have hu65 := room65 hr
  have hu66 := room66 hr
  exact (vss_one (vs_if (VW.vt (vw_or (vt_not (vt_tru (vo_val (ve_call V_is_integer gd (hr.mono (by decide)) rfl (He.glo_ok inK ns (c.fact 4 rfl)) F_is_integer.kp (B_is_integer : Binds K _ _ _) (va_cons (vo_rd (pv 0)) va_nil))))) (vw_or1 (vt_not (vt_chain op_le op_le ob_IB ov_IB fIB_mono fIB_mono (vo_val ve_int) (vo_rd (pv 0)) (vo_val (ve_con (conG_ok inK ns (c.con 1 rfl)) rfl)))))))
  (vss_one (vs_raise rfl (c.fact 11 rfl) (He.glo_ok inK ns (c.fact 12 rfl)) rfl))
  vss_nil))
theorem v_need_bound (inK : K.In h) (ns : h.Ns mainGlobals mg) (c : SaysX fa cs fn K) : ∃ fd, FunD K "need_bound" "need_bound" (defArgs s_need_bound) (defBody s_need_bound) (defScope s_need_bound) (e_need_bound.dvs K) (e_need_bound.kws K) (He.ga K "need_bound") fd ∧ FnV P w K mg base 4 (He.ga K "need_bound") fd ["gauges", "bound"] d_need_bound := by
  obtain ⟨fd, F⟩ := c.fun_ 7 (d := e_need_bound) rfl
  obtain ⟨fd_fits_bound, F_fits_bound, V_fits_bound⟩ := v_fits_bound (P := P) (w := w) (base := base) inK ns c
  have B_fits_bound : Binds K fd_fits_bound ["gauges", "value"] [] := FunD.bindsN F_fits_bound fun _ _ _ _ _ _ us hl => match us, hl with | [_, _], _ => rfl
  refine ⟨fd, F, fnv_by (N := ["gauges", "bound"]) (ps := ["gauges", "bound"]) F ⟨rfl, rfl, rfl, by decide +kernel, rfl, by decide +kernel, by decide +kernel⟩ (by decide) fun cdv A outer s H E G gd hr => ?_⟩
  have ndN : (["gauges", "bound"] : List Str).Nodup := by decide +kernel
  have hu64 := room64 hr
  have hu65 := room65 hr
  have hu66 := room66 hr
  exact (vss_one (vs_if (vt_not (vt_tru (vo_val (ve_call V_fits_bound gd (hr.mono (by decide)) rfl (He.glo_ok inK ns (c.fact 9 rfl)) F_fits_bound.kp (B_fits_bound : Binds K _ _ _) (va_cons (vo_rd (pv 0)) (va_cons (vo_rd (pv 1)) va_nil))))))
  (vss_one (vs_raise rfl (c.fact 13 rfl) (He.glo_ok inK ns (c.fact 14 rfl)) rfl))
  vss_nil))
theorem v_need_rule (inK : K.In h) (ns : h.Ns mainGlobals mg) (c : SaysX fa cs fn K) : ∃ fd, FunD K "need_rule" "need_rule" (defArgs s_need_rule) (defBody s_need_rule) (defScope s_need_rule) (e_need_rule.dvs K) (e_need_rule.kws K) (He.ga K "need_rule") fd ∧ FnV P w K mg base 5 (He.ga K "need_rule") fd ["gauges", "rule"] d_need_rule := by
  obtain ⟨fd, F⟩ := c.fun_ 8 (d := e_need_rule) rfl
  obtain ⟨fd_fits_rule, F_fits_rule, V_fits_rule⟩ := v_fits_rule (P := P) (w := w) (base := base) inK ns c
  have B_fits_rule : Binds K fd_fits_rule ["gauges", "value"] [] := FunD.bindsN F_fits_rule fun _ _ _ _ _ _ us hl => match us, hl with | [_, _], _ => rfl
  refine ⟨fd, F, fnv_by (N := ["gauges", "rule"]) (ps := ["gauges", "rule"]) F ⟨rfl, rfl, rfl, by decide +kernel, rfl, by decide +kernel, by decide +kernel⟩ (by decide) fun cdv A outer s H E G gd hr => ?_⟩
  have ndN : (["gauges", "rule"] : List Str).Nodup := by decide +kernel
  have hu64 := room64 hr
  have hu65 := room65 hr
  have hu66 := room66 hr
  exact (vss_one (vs_if (vt_not (vt_tru (vo_val (ve_call V_fits_rule gd (hr.mono (by decide)) rfl (He.glo_ok inK ns (c.fact 15 rfl)) F_fits_rule.kp (B_fits_rule : Binds K _ _ _) (va_cons (vo_rd (pv 0)) (va_cons (vo_rd (pv 1)) va_nil))))))
  (vss_one (vs_raise rfl (c.fact 16 rfl) (He.glo_ok inK ns (c.fact 17 rfl)) rfl))
  vss_nil))
theorem v_side_of (inK : K.In h) (ns : h.Ns mainGlobals mg) (c : SaysX fa cs fn K) : ∃ fd, FunD K "side_of" "side_of" (defArgs s_side_of) (defBody s_side_of) (defScope s_side_of) (e_side_of.dvs K) (e_side_of.kws K) (He.ga K "side_of") fd ∧ FnV P w K mg base 1 (He.ga K "side_of") fd ["bound"] d_side_of := by
  obtain ⟨fd, F⟩ := c.fun_ 9 (d := e_side_of) rfl
  refine ⟨fd, F, fnv_by (N := ["bound"]) (ps := ["bound"]) F ⟨rfl, rfl, rfl, by decide +kernel, rfl, by decide +kernel, by decide +kernel⟩ (by decide) fun cdv A outer s H E G gd hr => ?_⟩
  have ndN : (["bound"] : List Str).Nodup := by decide +kernel
  have hu64 := room64 hr
  have hu65 := room65 hr
  have hu66 := room66 hr
  exact (vss_one (vs_ret (ve_bin op_addV ov_add fAdd_mono (vo_val (ve_bin op_mul ov_II fII_mono (vo_val ve_int) (vo_val (ve_ix (vo_rd (pv 0)) (vo_val ve_int) (by intro _ _; rfl))))) (vo_val (ve_callTy call_int1 cv_int1 fInt1_mono rfl (He.free_ok inK ns (c.fact 1 rfl)) (by decide +kernel) (va_cons (vo_val (ve_cmp (op_eq.or (op_eqD hu64)) (nomark _) ov_eq fEqG_mono (vo_val (ve_ix (vo_rd (pv 0)) (vo_val ve_int) (by intro _ _; rfl))) (vo_val ve_str))) va_nil))))))
theorem v_level_of (inK : K.In h) (ns : h.Ns mainGlobals mg) (c : SaysX fa cs fn K) : ∃ fd, FunD K "level_of" "level_of" (defArgs s_level_of) (defBody s_level_of) (defScope s_level_of) (e_level_of.dvs K) (e_level_of.kws K) (He.ga K "level_of") fd ∧ FnV P w K mg base 1 (He.ga K "level_of") fd ["bound"] d_level_of := by
  obtain ⟨fd, F⟩ := c.fun_ 10 (d := e_level_of) rfl
  refine ⟨fd, F, fnv_by (N := ["bound"]) (ps := ["bound"]) F ⟨rfl, rfl, rfl, by decide +kernel, rfl, by decide +kernel, by decide +kernel⟩ (by decide) fun cdv A outer s H E G gd hr => ?_⟩
  have ndN : (["bound"] : List Str).Nodup := by decide +kernel
  have hu64 := room64 hr
  have hu65 := room65 hr
  have hu66 := room66 hr
  exact (vss_cons (vs_if (vt_cmp (op_eq.or (op_eqD hu64)) (nomark _) ov_eq fEqG_mono (vo_val (ve_ix (vo_rd (pv 0)) (vo_val ve_int) (by intro _ _; rfl))) (vo_val ve_str))
  (vss_one (vs_ret (ve_un un_neg ou_neg fNeg_mono (vo_val (ve_ix (vo_rd (pv 0)) (vo_val ve_int) (by intro _ _; rfl))))))
  vss_nil)
  (vss_one (vs_ret (ve_ix (vo_rd (pv 0)) (vo_val ve_int) (by intro _ _; rfl)))))
theorem v_bound_at (inK : K.In h) (ns : h.Ns mainGlobals mg) (c : SaysX fa cs fn K) : ∃ fd, FunD K "bound_at" "bound_at" (defArgs s_bound_at) (defBody s_bound_at) (defScope s_bound_at) (e_bound_at.dvs K) (e_bound_at.kws K) (He.ga K "bound_at") fd ∧ FnV P w K mg base 1 (He.ga K "bound_at") fd ["side", "level"] d_bound_at := by
  obtain ⟨fd, F⟩ := c.fun_ 11 (d := e_bound_at) rfl
  refine ⟨fd, F, fnv_by (N := ["side", "level"]) (ps := ["side", "level"]) F ⟨rfl, rfl, rfl, by decide +kernel, rfl, by decide +kernel, by decide +kernel⟩ (by decide) fun cdv A outer s H E G gd hr => ?_⟩
  have ndN : (["side", "level"] : List Str).Nodup := by decide +kernel
  have hu64 := room64 hr
  have hu65 := room65 hr
  have hu66 := room66 hr
  exact (vss_cons (vs_if (vt_cmp (op_eq.or (op_eqD hu64)) (nomark _) ov_eq fEqG_mono (vo_val (ve_bin op_and ov_I0 fI0_mono (vo_rd (pv 0)) (vo_val ve_int))) (vo_val ve_int))
  (vss_one (vs_ret (ve_tup (vl_cons (ve_bin op_fdivW ov_II fII_mono (vo_rd (pv 0)) (vo_val ve_int)) (vl_cons (ve_ix (vo_val (ve_con (conG_ok inK ns (c.con 0 rfl)) rfl)) (vo_val ve_int) (by intro _ _; rfl)) (vl_cons (ve_un un_neg ou_neg fNeg_mono (vo_rd (pv 1))) vl_nil))))))
  vss_nil)
  (vss_one (vs_ret (ve_tup (vl_cons (ve_bin op_fdivW ov_II fII_mono (vo_rd (pv 0)) (vo_val ve_int)) (vl_cons (ve_ix (vo_val (ve_con (conG_ok inK ns (c.con 0 rfl)) rfl)) (vo_val ve_int) (by intro _ _; rfl)) (vl_cons (ve_var (pv 1)) vl_nil)))))))
theorem v_links_of (inK : K.In h) (ns : h.Ns mainGlobals mg) (c : SaysX fa cs fn K) : ∃ fd, FunD K "links_of" "links_of" (defArgs s_links_of) (defBody s_links_of) (defScope s_links_of) (e_links_of.dvs K) (e_links_of.kws K) (He.ga K "links_of") fd ∧ FnV P w K mg base 1 (He.ga K "links_of") fd ["book"] d_links_of := by
  obtain ⟨fd, F⟩ := c.fun_ 12 (d := e_links_of) rfl
  refine ⟨fd, F, fnv_by (N := ["book", "found", "index", "rule"]) (ps := ["book"]) F ⟨rfl, rfl, rfl, by decide +kernel, rfl, by decide +kernel, by decide +kernel⟩ (by decide) fun cdv A outer s H E G gd hr => ?_⟩
  have ndN : (["book", "found", "index", "rule"] : List Str).Nodup := by decide +kernel
  have hu64 := room64 hr
  have hu65 := room65 hr
  have hu66 := room66 hr
  exact (vss_cons (vs_set ndN rfl (by first | exact Or.inl rfl | exact Or.inr rfl) (ve_lst vl_nil))
  (vss_cons (vs_for rfl (vi_enum rfl (He.free_ok inK ns (c.fact 18 rfl)) (ve_var (pv 0))) (vg_tup rfl (vgs_cons (vg_name ndN rfl (by first | exact Or.inl rfl | exact Or.inr rfl)) (vgs_cons (vg_name ndN rfl (by first | exact Or.inl rfl | exact Or.inr rfl)) vgs_nil)))
  (vss_one (vs_if (vt_cmp (op_eq.or (op_eqD hu64)) (nomark _) ov_eq fEqG_mono (vo_val (ve_ix (vo_rd (pv 3)) (vo_val ve_int) (by intro _ _; rfl))) (vo_val ve_str))
  (vss_cons (vs_expr (ve_meth PySem.F.plainAttrs_list PySem.F.slot_list_append (by first | rfl | kernel_rfl) mt_append mv_append fAppend_mono (pv 1) (vl_cons (ve_tup (vl_cons (ve_var (pv 2)) (vl_cons (ve_bin op_mul ov_II fII_mono (vo_val ve_int) (vo_val (ve_ix (vo_rd (pv 3)) (vo_val ve_int) (by intro _ _; rfl)))) (vl_cons (ve_bin op_mul ov_II fII_mono (vo_val ve_int) (vo_val (ve_ix (vo_rd (pv 3)) (vo_val ve_int) (by intro _ _; rfl)))) (vl_cons (ve_un un_neg ou_neg fNeg_mono (vo_val (ve_ix (vo_rd (pv 3)) (vo_val ve_int) (by intro _ _; rfl)))) vl_nil))))) vl_nil)))
  (vss_one (vs_expr (ve_meth PySem.F.plainAttrs_list PySem.F.slot_list_append (by first | rfl | kernel_rfl) mt_append mv_append fAppend_mono (pv 1) (vl_cons (ve_tup (vl_cons (ve_var (pv 2)) (vl_cons (ve_bin op_addV ov_add fAdd_mono (vo_val (ve_bin op_mul ov_II fII_mono (vo_val ve_int) (vo_val (ve_ix (vo_rd (pv 3)) (vo_val ve_int) (by intro _ _; rfl))))) (vo_val ve_int)) (vl_cons (ve_bin op_addV ov_add fAdd_mono (vo_val (ve_bin op_mul ov_II fII_mono (vo_val ve_int) (vo_val (ve_ix (vo_rd (pv 3)) (vo_val ve_int) (by intro _ _; rfl))))) (vo_val ve_int)) (vl_cons (ve_un un_neg ou_neg fNeg_mono (vo_val (ve_ix (vo_rd (pv 3)) (vo_val ve_int) (by intro _ _; rfl)))) vl_nil))))) vl_nil)))))
  (vss_one (vs_if (VW.vt (vw_and (vt_cmp (op_eq.or (op_eqD hu64)) (nomark _) ov_eq fEqG_mono (vo_val (ve_ix (vo_rd (pv 3)) (vo_val ve_int) (by intro _ _; rfl))) (vo_val ve_str)) (vw_and1 (vt_cmp (op_eq.or (op_eqD hu64)) (nomark _) ov_eq fEqG_mono (vo_val (ve_ix (vo_rd (pv 3)) (vo_val ve_int) (by intro _ _; rfl))) (vo_val ve_str)))))
  (vss_cons (vs_expr (ve_meth PySem.F.plainAttrs_list PySem.F.slot_list_append (by first | rfl | kernel_rfl) mt_append mv_append fAppend_mono (pv 1) (vl_cons (ve_tup (vl_cons (ve_var (pv 2)) (vl_cons (ve_bin op_mul ov_II fII_mono (vo_val ve_int) (vo_val (ve_ix (vo_rd (pv 3)) (vo_val ve_int) (by intro _ _; rfl)))) (vl_cons (ve_bin op_addV ov_add fAdd_mono (vo_val (ve_bin op_mul ov_II fII_mono (vo_val ve_int) (vo_val (ve_ix (vo_rd (pv 3)) (vo_val ve_int) (by intro _ _; rfl))))) (vo_val ve_int)) (vl_cons (ve_un un_neg ou_neg fNeg_mono (vo_val (ve_ix (vo_rd (pv 3)) (vo_val ve_int) (by intro _ _; rfl)))) vl_nil))))) vl_nil)))
  (vss_one (vs_expr (ve_meth PySem.F.plainAttrs_list PySem.F.slot_list_append (by first | rfl | kernel_rfl) mt_append mv_append fAppend_mono (pv 1) (vl_cons (ve_tup (vl_cons (ve_var (pv 2)) (vl_cons (ve_bin op_mul ov_II fII_mono (vo_val ve_int) (vo_val (ve_ix (vo_rd (pv 3)) (vo_val ve_int) (by intro _ _; rfl)))) (vl_cons (ve_bin op_addV ov_add fAdd_mono (vo_val (ve_bin op_mul ov_II fII_mono (vo_val ve_int) (vo_val (ve_ix (vo_rd (pv 3)) (vo_val ve_int) (by intro _ _; rfl))))) (vo_val ve_int)) (vl_cons (ve_un un_neg ou_neg fNeg_mono (vo_val (ve_ix (vo_rd (pv 3)) (vo_val ve_int) (by intro _ _; rfl)))) vl_nil))))) vl_nil)))))
  (vss_one (vs_if (vt_cmp (op_eq.or (op_eqD hu64)) (nomark _) ov_eq fEqG_mono (vo_val (ve_ix (vo_rd (pv 3)) (vo_val ve_int) (by intro _ _; rfl))) (vo_val ve_str))
  (vss_cons (vs_expr (ve_meth PySem.F.plainAttrs_list PySem.F.slot_list_append (by first | rfl | kernel_rfl) mt_append mv_append fAppend_mono (pv 1) (vl_cons (ve_tup (vl_cons (ve_var (pv 2)) (vl_cons (ve_bin op_addV ov_add fAdd_mono (vo_val (ve_bin op_mul ov_II fII_mono (vo_val ve_int) (vo_val (ve_ix (vo_rd (pv 3)) (vo_val ve_int) (by intro _ _; rfl))))) (vo_val ve_int)) (vl_cons (ve_bin op_mul ov_II fII_mono (vo_val ve_int) (vo_val (ve_ix (vo_rd (pv 3)) (vo_val ve_int) (by intro _ _; rfl)))) (vl_cons (ve_ix (vo_rd (pv 3)) (vo_val ve_int) (by intro _ _; rfl)) vl_nil))))) vl_nil)))
  (vss_one (vs_expr (ve_meth PySem.F.plainAttrs_list PySem.F.slot_list_append (by first | rfl | kernel_rfl) mt_append mv_append fAppend_mono (pv 1) (vl_cons (ve_tup (vl_cons (ve_var (pv 2)) (vl_cons (ve_bin op_addV ov_add fAdd_mono (vo_val (ve_bin op_mul ov_II fII_mono (vo_val ve_int) (vo_val (ve_ix (vo_rd (pv 3)) (vo_val ve_int) (by intro _ _; rfl))))) (vo_val ve_int)) (vl_cons (ve_bin op_mul ov_II fII_mono (vo_val ve_int) (vo_val (ve_ix (vo_rd (pv 3)) (vo_val ve_int) (by intro _ _; rfl)))) (vl_cons (ve_ix (vo_rd (pv 3)) (vo_val ve_int) (by intro _ _; rfl)) vl_nil))))) vl_nil)))))
  vss_nil)))))))
  (vss_one (vs_ret (ve_move (pv 1))))))
theorem v_gates_of (inK : K.In h) (ns : h.Ns mainGlobals mg) (c : SaysX fa cs fn K) : ∃ fd, FunD K "gates_of" "gates_of" (defArgs s_gates_of) (defBody s_gates_of) (defScope s_gates_of) (e_gates_of.dvs K) (e_gates_of.kws K) (He.ga K "gates_of") fd ∧ FnV P w K mg base 2 (He.ga K "gates_of") fd ["book"] d_gates_of := by
  obtain ⟨fd, F⟩ := c.fun_ 13 (d := e_gates_of) rfl
  obtain ⟨fd_side_of, F_side_of, V_side_of⟩ := v_side_of (P := P) (w := w) (base := base) inK ns c
  have B_side_of : Binds K fd_side_of ["bound"] [] := FunD.bindsN F_side_of fun _ _ _ _ _ _ us hl => match us, hl with | [_], _ => rfl
  obtain ⟨fd_level_of, F_level_of, V_level_of⟩ := v_level_of (P := P) (w := w) (base := base) inK ns c
  have B_level_of : Binds K fd_level_of ["bound"] [] := FunD.bindsN F_level_of fun _ _ _ _ _ _ us hl => match us, hl with | [_], _ => rfl
  refine ⟨fd, F, fnv_by (N := ["book", "found", "index", "rule", "given", "taken"]) (ps := ["book"]) F ⟨rfl, rfl, rfl, by decide +kernel, rfl, by decide +kernel, by decide +kernel⟩ (by decide) fun cdv A outer s H E G gd hr => ?_⟩
  have ndN : (["book", "found", "index", "rule", "given", "taken"] : List Str).Nodup := by decide +kernel
  have hu64 := room64 hr
  have hu65 := room65 hr
  have hu66 := room66 hr
  exact (vss_cons (vs_set ndN rfl (by first | exact Or.inl rfl | exact Or.inr rfl) (ve_lst vl_nil))
  (vss_cons (vs_for rfl (vi_enum rfl (He.free_ok inK ns (c.fact 18 rfl)) (ve_var (pv 0))) (vg_tup rfl (vgs_cons (vg_name ndN rfl (by first | exact Or.inl rfl | exact Or.inr rfl)) (vgs_cons (vg_name ndN rfl (by first | exact Or.inl rfl | exact Or.inr rfl)) vgs_nil)))
  (vss_one (vs_if (vt_cmp (op_eq.or (op_eqD hu64)) (nomark _) ov_eq fEqG_mono (vo_val (ve_ix (vo_rd (pv 3)) (vo_val ve_int) (by intro _ _; rfl))) (vo_val ve_str))
  (vss_one (vs_for rfl (vi_val (ve_tup (vl_cons (ve_tup (vl_cons (ve_ix (vo_rd (pv 3)) (vo_val ve_int) (by intro _ _; rfl)) (vl_cons (ve_ix (vo_rd (pv 3)) (vo_val ve_int) (by intro _ _; rfl)) vl_nil))) (vl_cons (ve_tup (vl_cons (ve_ix (vo_rd (pv 3)) (vo_val ve_int) (by intro _ _; rfl)) (vl_cons (ve_ix (vo_rd (pv 3)) (vo_val ve_int) (by intro _ _; rfl)) vl_nil))) vl_nil)))) (vg_tup rfl (vgs_cons (vg_name ndN rfl (by first | exact Or.inl rfl | exact Or.inr rfl)) (vgs_cons (vg_name ndN rfl (by first | exact Or.inl rfl | exact Or.inr rfl)) vgs_nil)))
  (vss_one (vs_expr (ve_meth PySem.F.plainAttrs_list PySem.F.slot_list_append (by first | rfl | kernel_rfl) mt_append mv_append fAppend_mono (pv 1) (vl_cons (ve_tup (vl_cons (ve_var (pv 2)) (vl_cons (ve_bin op_xor ov_I0 fI0_mono (vo_val (ve_call V_side_of gd (hr.mono (by decide)) rfl (He.glo_ok inK ns (c.fact 19 rfl)) F_side_of.kp (B_side_of : Binds K _ _ _) (va_cons (vo_rd (pv 4)) va_nil))) (vo_val ve_int)) (vl_cons (ve_bin op_sub ov_I0 fI0_mono (vo_val ve_int) (vo_val (ve_call V_level_of gd (hr.mono (by decide)) rfl (He.glo_ok inK ns (c.fact 20 rfl)) F_level_of.kp (B_level_of : Binds K _ _ _) (va_cons (vo_rd (pv 4)) va_nil)))) (vl_cons (ve_call V_side_of gd (hr.mono (by decide)) rfl (He.glo_ok inK ns (c.fact 19 rfl)) F_side_of.kp (B_side_of : Binds K _ _ _) (va_cons (vo_rd (pv 5)) va_nil)) (vl_cons (ve_call V_level_of gd (hr.mono (by decide)) rfl (He.glo_ok inK ns (c.fact 20 rfl)) F_level_of.kp (B_level_of : Binds K _ _ _) (va_cons (vo_rd (pv 5)) va_nil)) vl_nil)))))) vl_nil))))))
  vss_nil)))
  (vss_one (vs_ret (ve_move (pv 1))))))
theorem v_forced_by (inK : K.In h) (ns : h.Ns mainGlobals mg) (c : SaysX fa cs fn K) : ∃ fd, FunD K "forced_by" "forced_by" (defArgs s_forced_by) (defBody s_forced_by) (defScope s_forced_by) (e_forced_by.dvs K) (e_forced_by.kws K) (He.ga K "forced_by") fd ∧ FnV P w K mg base 3 (He.ga K "forced_by") fd ["rule", "bound"] d_forced_by := by
  obtain ⟨fd, F⟩ := c.fun_ 14 (d := e_forced_by) rfl
  obtain ⟨fd_side_of, F_side_of, V_side_of⟩ := v_side_of (P := P) (w := w) (base := base) inK ns c
  have B_side_of : Binds K fd_side_of ["bound"] [] := FunD.bindsN F_side_of fun _ _ _ _ _ _ us hl => match us, hl with | [_], _ => rfl
  obtain ⟨fd_level_of, F_level_of, V_level_of⟩ := v_level_of (P := P) (w := w) (base := base) inK ns c
  have B_level_of : Binds K fd_level_of ["bound"] [] := FunD.bindsN F_level_of fun _ _ _ _ _ _ us hl => match us, hl with | [_], _ => rfl
  obtain ⟨fd_links_of, F_links_of, V_links_of⟩ := v_links_of (P := P) (w := w) (base := base) inK ns c
  have B_links_of : Binds K fd_links_of ["book"] [] := FunD.bindsN F_links_of fun _ _ _ _ _ _ us hl => match us, hl with | [_], _ => rfl
  obtain ⟨fd_bound_at, F_bound_at, V_bound_at⟩ := v_bound_at (P := P) (w := w) (base := base) inK ns c
  have B_bound_at : Binds K fd_bound_at ["side", "level"] [] := FunD.bindsN F_bound_at fun _ _ _ _ _ _ us hl => match us, hl with | [_, _], _ => rfl
  obtain ⟨fd_gates_of, F_gates_of, V_gates_of⟩ := v_gates_of (P := P) (w := w) (base := base) inK ns c
  have B_gates_of : Binds K fd_gates_of ["book"] [] := FunD.bindsN F_gates_of fun _ _ _ _ _ _ us hl => match us, hl with | [_], _ => rfl
  refine ⟨fd, F, fnv_by (N := ["rule", "bound", "side", "level", "found", "index", "start", "goal", "gain", "least", "worth", "come"]) (ps := ["rule", "bound"]) F ⟨rfl, rfl, rfl, by decide +kernel, rfl, by decide +kernel, by decide +kernel⟩ (by decide) fun cdv A outer s H E G gd hr => ?_⟩
  have ndN : (["rule", "bound", "side", "level", "found", "index", "start", "goal", "gain", "least", "worth", "come"] : List Str).Nodup := by decide +kernel
  have hu64 := room64 hr
  have hu65 := room65 hr
  have hu66 := room66 hr
  exact (vss_cons (vs_set ndN rfl (by first | exact Or.inl rfl | exact Or.inr rfl) (ve_call V_side_of gd (hr.mono (by decide)) rfl (He.glo_ok inK ns (c.fact 19 rfl)) F_side_of.kp (B_side_of : Binds K _ _ _) (va_cons (vo_rd (pv 1)) va_nil)))
  (vss_cons (vs_set ndN rfl (by first | exact Or.inl rfl | exact Or.inr rfl) (ve_call V_level_of gd (hr.mono (by decide)) rfl (He.glo_ok inK ns (c.fact 20 rfl)) F_level_of.kp (B_level_of : Binds K _ _ _) (va_cons (vo_rd (pv 1)) va_nil)))
  (vss_cons (vs_set ndN rfl (by first | exact Or.inl rfl | exact Or.inr rfl) (ve_lst vl_nil))
  (vss_cons (vs_for rfl (vi_val (ve_call V_links_of gd (hr.mono (by decide)) rfl (He.glo_ok inK ns (c.fact 21 rfl)) F_links_of.kp (B_links_of : Binds K _ _ _) (va_cons (vo_val (ve_tup (vl_cons (ve_var (pv 0)) vl_nil))) va_nil))) (vg_tup rfl (vgs_cons (vg_name ndN rfl (by first | exact Or.inl rfl | exact Or.inr rfl)) (vgs_cons (vg_name ndN rfl (by first | exact Or.inl rfl | exact Or.inr rfl)) (vgs_cons (vg_name ndN rfl (by first | exact Or.inl rfl | exact Or.inr rfl)) (vgs_cons (vg_name ndN rfl (by first | exact Or.inl rfl | exact Or.inr rfl)) vgs_nil)))))
  (vss_one (vs_if (vt_cmp (op_eq.or (op_eqD hu64)) (nomark _) ov_eq fEqG_mono (vo_rd (pv 6)) (vo_rd (pv 2)))
  (vss_one (vs_expr (ve_meth PySem.F.plainAttrs_list PySem.F.slot_list_append (by first | rfl | kernel_rfl) mt_append mv_append fAppend_mono (pv 4) (vl_cons (ve_call V_bound_at gd (hr.mono (by decide)) rfl (He.glo_ok inK ns (c.fact 22 rfl)) F_bound_at.kp (B_bound_at : Binds K _ _ _) (va_cons (vo_rd (pv 7)) (va_cons (vo_val (ve_bin op_addV ov_add fAdd_mono (vo_rd (pv 3)) (vo_rd (pv 8)))) va_nil))) vl_nil))))
  vss_nil)))
  (vss_cons (vs_for rfl (vi_val (ve_call V_gates_of gd (hr.mono (by decide)) rfl (He.glo_ok inK ns (c.fact 23 rfl)) F_gates_of.kp (B_gates_of : Binds K _ _ _) (va_cons (vo_val (ve_tup (vl_cons (ve_var (pv 0)) vl_nil))) va_nil))) (vg_tup rfl (vgs_cons (vg_name ndN rfl (by first | exact Or.inl rfl | exact Or.inr rfl)) (vgs_cons (vg_name ndN rfl (by first | exact Or.inl rfl | exact Or.inr rfl)) (vgs_cons (vg_name ndN rfl (by first | exact Or.inl rfl | exact Or.inr rfl)) (vgs_cons (vg_name ndN rfl (by first | exact Or.inl rfl | exact Or.inr rfl)) (vgs_cons (vg_name ndN rfl (by first | exact Or.inl rfl | exact Or.inr rfl)) vgs_nil))))))
  (vss_cons (vs_set ndN rfl (by first | exact Or.inl rfl | exact Or.inr rfl) (ve_call V_bound_at gd (hr.mono (by decide)) rfl (He.glo_ok inK ns (c.fact 22 rfl)) F_bound_at.kp (B_bound_at : Binds K _ _ _) (va_cons (vo_rd (pv 7)) (va_cons (vo_val (ve_var (pv 10))) va_nil))))
  (vss_one (vs_if (VW.vt (vw_and (vt_cmp (op_eq.or (op_eqD hu64)) (nomark _) ov_eq fEqG_mono (vo_rd (pv 6)) (vo_rd (pv 2))) (vw_and (vt_cmp op_ge (nomark _) ov_IB fIB_mono (vo_rd (pv 3)) (vo_rd (pv 9))) (vw_and1 (vt_cmp (op_notInV hu65) rfl ov_notIn fInG_mono (vo_rd (pv 11)) (vo_rd (pv 4)))))))
  (vss_one (vs_expr (ve_meth PySem.F.plainAttrs_list PySem.F.slot_list_append (by first | rfl | kernel_rfl) mt_append mv_append fAppend_mono (pv 4) (vl_cons (ve_var (pv 11)) vl_nil))))
  vss_nil))))
  (vss_cons (vs_if (VW.vt (vw_and (vt_cmp (op_eq.or (op_eqD hu64)) (nomark _) ov_eq fEqG_mono (vo_val (ve_callB cr_lenV cv_len fLen_mono rfl (He.free_ok inK ns (c.fact 6 rfl)) (by decide +kernel) (va_cons (vo_rd (pv 4)) va_nil))) (vo_val ve_int)) (vw_and1 (vt_cmp (op_lt.or (op_ltD (Nat.lt_of_le_of_lt (Nat.le_refl _) hu64))) (nomark _) ov_ltD fLtD_mono (vo_val (ve_ix (vo_rd (pv 4)) (vo_val ve_int) (by intro _ _; rfl))) (vo_val (ve_ix (vo_rd (pv 4)) (vo_val ve_int) (by intro _ _; rfl)))))))
  (vss_one (vs_ret (ve_lst (vl_cons (ve_ix (vo_rd (pv 4)) (vo_val ve_int) (by intro _ _; rfl)) (vl_cons (ve_ix (vo_rd (pv 4)) (vo_val ve_int) (by intro _ _; rfl)) vl_nil)))))
  vss_nil)
  (vss_one (vs_ret (ve_move (pv 4))))))))))
theorem v_forced (inK : K.In h) (ns : h.Ns mainGlobals mg) (c : SaysX fa cs fn K) : ∃ fd, FunD K "forced" "forced" (defArgs s_forced) (defBody s_forced) (defScope s_forced) (e_forced.dvs K) (e_forced.kws K) (He.ga K "forced") fd ∧ FnV P w K mg base 6 (He.ga K "forced") fd ["gauges", "rule", "bound"] d_forced := by
  obtain ⟨fd, F⟩ := c.fun_ 15 (d := e_forced) rfl
  obtain ⟨fd_need_gauges, F_need_gauges, V_need_gauges⟩ := v_need_gauges (P := P) (w := w) (base := base) inK ns c
  have B_need_gauges : Binds K fd_need_gauges ["gauges"] [] := FunD.bindsN F_need_gauges fun _ _ _ _ _ _ us hl => match us, hl with | [_], _ => rfl
  obtain ⟨fd_need_rule, F_need_rule, V_need_rule⟩ := v_need_rule (P := P) (w := w) (base := base) inK ns c
  have B_need_rule : Binds K fd_need_rule ["gauges", "rule"] [] := FunD.bindsN F_need_rule fun _ _ _ _ _ _ us hl => match us, hl with | [_, _], _ => rfl
  obtain ⟨fd_need_bound, F_need_bound, V_need_bound⟩ := v_need_bound (P := P) (w := w) (base := base) inK ns c
  have B_need_bound : Binds K fd_need_bound ["gauges", "bound"] [] := FunD.bindsN F_need_bound fun _ _ _ _ _ _ us hl => match us, hl with | [_, _], _ => rfl
  obtain ⟨fd_forced_by, F_forced_by, V_forced_by⟩ := v_forced_by (P := P) (w := w) (base := base) inK ns c
  have B_forced_by : Binds K fd_forced_by ["rule", "bound"] [] := FunD.bindsN F_forced_by fun _ _ _ _ _ _ us hl => match us, hl with | [_, _], _ => rfl
  refine ⟨fd, F, fnv_by (N := ["gauges", "rule", "bound"]) (ps := ["gauges", "rule", "bound"]) F ⟨rfl, rfl, rfl, by decide +kernel, rfl, by decide +kernel, by decide +kernel⟩ (by decide) fun cdv A outer s H E G gd hr => ?_⟩
  have ndN : (["gauges", "rule", "bound"] : List Str).Nodup := by decide +kernel
  have hu64 := room64 hr
  have hu65 := room65 hr
  have hu66 := room66 hr
  exact (vss_cons (vs_expr (ve_call V_need_gauges gd (hr.mono (by decide)) rfl (He.glo_ok inK ns (c.fact 24 rfl)) F_need_gauges.kp (B_need_gauges : Binds K _ _ _) (va_cons (vo_rd (pv 0)) va_nil)))
  (vss_cons (vs_expr (ve_call V_need_rule gd (hr.mono (by decide)) rfl (He.glo_ok inK ns (c.fact 25 rfl)) F_need_rule.kp (B_need_rule : Binds K _ _ _) (va_cons (vo_rd (pv 0)) (va_cons (vo_rd (pv 1)) va_nil))))
  (vss_cons (vs_expr (ve_call V_need_bound gd (hr.mono (by decide)) rfl (He.glo_ok inK ns (c.fact 26 rfl)) F_need_bound.kp (B_need_bound : Binds K _ _ _) (va_cons (vo_rd (pv 0)) (va_cons (vo_rd (pv 2)) va_nil))))
  (vss_one (vs_ret (ve_call V_forced_by gd (hr.mono (by decide)) rfl (He.glo_ok inK ns (c.fact 27 rfl)) F_forced_by.kp (B_forced_by : Binds K _ _ _) (va_cons (vo_val (ve_var (pv 1))) (va_cons (vo_rd (pv 2)) va_nil))))))))
theorem v__law_bag (inK : K.In h) (ns : h.Ns mainGlobals mg) (c : SaysX fa cs fn K) : ∃ fd, FunD K "_law_bag" "_law_bag" (defArgs s__law_bag) (defBody s__law_bag) (defScope s__law_bag) (e__law_bag.dvs K) (e__law_bag.kws K) (He.ga K "_law_bag") fd ∧ FnV P w K mg base 1 (He.ga K "_law_bag") fd ["cell"] d__law_bag := by
  obtain ⟨fd, F⟩ := c.fun_ 16 (d := e__law_bag) rfl
  refine ⟨fd, F, fnv_by (N := ["cell"]) (ps := ["cell"]) F ⟨rfl, rfl, rfl, by decide +kernel, rfl, by decide +kernel, by decide +kernel⟩ (by decide) fun cdv A outer s H E G gd hr => ?_⟩
  have ndN : (["cell"] : List Str).Nodup := by decide +kernel
  have hu64 := room64 hr
  have hu65 := room65 hr
  have hu66 := room66 hr
  exact (vss_one (vs_ret (ve_lst (vl_cons (ve_callB (cr_maxV rfl) cv_max fMax_mono rfl (He.free_ok inK ns (c.fact 28 rfl)) (by decide +kernel) (va_cons (vo_val ve_int) (va_cons (vo_val (ve_bin op_sub ov_I0 fI0_mono (vo_rd (pv 0)) (vo_val (ve_bin op_pow ov_II fII_mono (vo_val ve_int) (vo_val ve_int))))) va_nil))) (vl_cons (ve_bin op_mod ov_II fII_mono (vo_val (ve_callTy call_int1 cv_int1 fInt1_mono rfl (He.free_ok inK ns (c.fact 1 rfl)) (by decide +kernel) (va_cons (vo_rd (pv 0)) va_nil))) (vo_val ve_int)) (vl_cons ve_int vl_nil))))))
theorem v__law_draw (inK : K.In h) (ns : h.Ns mainGlobals mg) (c : SaysX fa cs fn K) : ∃ fd, FunD K "_law_draw" "_law_draw" (defArgs s__law_draw) (defBody s__law_draw) (defScope s__law_draw) (e__law_draw.dvs K) (e__law_draw.kws K) (He.ga K "_law_draw") fd ∧ FnV P w K mg base 1 (He.ga K "_law_draw") fd ["bag", "upto"] d__law_draw := by
  obtain ⟨fd, F⟩ := c.fun_ 17 (d := e__law_draw) rfl
  refine ⟨fd, F, fnv_by (N := ["bag", "upto", "digit", "turn", "again"]) (ps := ["bag", "upto"]) F ⟨rfl, rfl, rfl, by decide +kernel, rfl, by decide +kernel, by decide +kernel⟩ (by decide) fun cdv A outer s H E G gd hr => ?_⟩
  have ndN : (["bag", "upto", "digit", "turn", "again"] : List Str).Nodup := by decide +kernel
  have hu64 := room64 hr
  have hu65 := room65 hr
  have hu66 := room66 hr
  exact (vss_cons (vs_if (vt_cmp op_gt (nomark _) ov_IB fIB_mono (vo_val (ve_ix (vo_rd (pv 0)) (vo_val ve_int) (by intro _ _; rfl))) (vo_val ve_int))
  (vss_cons (vs_set ndN rfl (by first | exact Or.inl rfl | exact Or.inr rfl) (ve_bin op_mod ov_II fII_mono (vo_val (ve_callTy call_int1 cv_int1 fInt1_mono rfl (He.free_ok inK ns (c.fact 1 rfl)) (by decide +kernel) (va_cons (vo_val (ve_ix (vo_rd (pv 0)) (vo_val ve_int) (by intro _ _; rfl))) va_nil))) (vo_rd (pv 1))))
  (vss_cons (vs_setIx (ve_bin op_fdivW ov_II fII_mono (vo_val (ve_ix (vo_rd (pv 0)) (vo_val ve_int) (by intro _ _; rfl))) (vo_rd (pv 1))) (pv 0) (vo_val ve_int))
  (vss_one (vs_ret (ve_move (pv 2))))))
  vss_nil)
  (vss_cons (vs_setIx (ve_bin op_addV ov_add fAdd_mono (vo_val (ve_ix (vo_rd (pv 0)) (vo_val ve_int) (by intro _ _; rfl))) (vo_val ve_int)) (pv 0) (vo_val ve_int))
  (vss_cons (vs_set ndN rfl (by first | exact Or.inl rfl | exact Or.inr rfl) (ve_ix (vo_rd (pv 0)) (vo_val ve_int) (by intro _ _; rfl)))
  (vss_cons (vs_set ndN rfl (by first | exact Or.inl rfl | exact Or.inr rfl) (ve_bin op_addV ov_add fAdd_mono (vo_val (ve_bin op_addV ov_add fAdd_mono (vo_val (ve_bin op_mul ov_II fII_mono (vo_val (ve_bin op_mul ov_II fII_mono (vo_val ve_int) (vo_rd (pv 3)))) (vo_rd (pv 3)))) (vo_val (ve_bin op_mul ov_II fII_mono (vo_val ve_int) (vo_rd (pv 3)))))) (vo_val ve_int)))
  (vss_cons (vs_set ndN rfl (by first | exact Or.inl rfl | exact Or.inr rfl) (ve_bin op_mod ov_II fII_mono (vo_val (ve_callTy call_int1 cv_int1 fInt1_mono rfl (He.free_ok inK ns (c.fact 1 rfl)) (by decide +kernel) (va_cons (vo_val (ve_bin op_mul ov_II fII_mono (vo_val (ve_bin op_addV ov_add fAdd_mono (vo_val (ve_bin op_addV ov_add fAdd_mono (vo_val (ve_ix (vo_rd (pv 0)) (vo_val ve_int) (by intro _ _; rfl))) (vo_val (ve_bin op_mul ov_II fII_mono (vo_val ve_int) (vo_rd (pv 3)))))) (vo_val ve_int))) (vo_rd (pv 4)))) va_nil))) (vo_val ve_int)))
  (vss_cons (vs_set ndN rfl (by first | exact Or.inl rfl | exact Or.inr rfl) (ve_bin op_mod ov_II fII_mono (vo_val (ve_callTy call_int1 cv_int1 fInt1_mono rfl (He.free_ok inK ns (c.fact 1 rfl)) (by decide +kernel) (va_cons (vo_val (ve_bin op_addV ov_add fAdd_mono (vo_val (ve_bin op_addV ov_add fAdd_mono (vo_val (ve_bin op_mul ov_II fII_mono (vo_rd (pv 4)) (vo_rd (pv 4)))) (vo_val (ve_bin op_mul ov_II fII_mono (vo_val ve_int) (vo_rd (pv 4)))))) (vo_rd (pv 3)))) va_nil))) (vo_val ve_int)))
  (vss_one (vs_ret (ve_bin op_mod ov_II fII_mono (vo_val (ve_bin op_fdivW ov_II fII_mono (vo_val (ve_bin op_mod ov_II fII_mono (vo_val (ve_callTy call_int1 cv_int1 fInt1_mono rfl (He.free_ok inK ns (c.fact 1 rfl)) (by decide +kernel) (va_cons (vo_val (ve_bin op_addV ov_add fAdd_mono (vo_val (ve_bin op_mul ov_II fII_mono (vo_rd (pv 4)) (vo_rd (pv 4)))) (vo_val (ve_bin op_mul ov_II fII_mono (vo_val ve_int) (vo_rd (pv 4)))))) va_nil))) (vo_val ve_int))) (vo_val ve_int))) (vo_rd (pv 1)))))))))))
theorem v__law_number (inK : K.In h) (ns : h.Ns mainGlobals mg) (c : SaysX fa cs fn K) : ∃ fd, FunD K "_law_number" "_law_number" (defArgs s__law_number) (defBody s__law_number) (defScope s__law_number) (e__law_number.dvs K) (e__law_number.kws K) (He.ga K "_law_number") fd ∧ FnV P w K mg base 2 (He.ga K "_law_number") fd ["bag"] d__law_number := by
  obtain ⟨fd, F⟩ := c.fun_ 18 (d := e__law_number) rfl
  obtain ⟨fd__law_draw, F__law_draw, V__law_draw⟩ := v__law_draw (P := P) (w := w) (base := base) inK ns c
  have B__law_draw : Binds K fd__law_draw ["bag", "upto"] [] := FunD.bindsN F__law_draw fun _ _ _ _ _ _ us hl => match us, hl with | [_, _], _ => rfl
  refine ⟨fd, F, fnv_by (N := ["bag", "size"]) (ps := ["bag"]) F ⟨rfl, rfl, rfl, by decide +kernel, rfl, by decide +kernel, by decide +kernel⟩ (by decide) fun cdv A outer s H E G gd hr => ?_⟩
  have ndN : (["bag", "size"] : List Str).Nodup := by decide +kernel
  have hu64 := room64 hr
  have hu65 := room65 hr
  have hu66 := room66 hr
  exact (vss_cons (vs_set ndN rfl (by first | exact Or.inl rfl | exact Or.inr rfl) (ve_call V__law_draw gd (hr.mono (by decide)) rfl (He.glo_ok inK ns (c.fact 29 rfl)) F__law_draw.kp (B__law_draw : Binds K _ _ _) (va_cons (vo_mt (pv 0)) (va_cons (vo_val ve_int) va_nil))))
  (vss_cons (vs_if (vt_cmp op_lt (nomark _) ov_IB fIB_mono (vo_rd (pv 1)) (vo_val ve_int))
  (vss_one (vs_ret (ve_bin op_sub ov_I0 fI0_mono (vo_val (ve_call V__law_draw gd (hr.mono (by decide)) rfl (He.glo_ok inK ns (c.fact 29 rfl)) F__law_draw.kp (B__law_draw : Binds K _ _ _) (va_cons (vo_mt (pv 0)) (va_cons (vo_val ve_int) va_nil)))) (vo_val ve_int))))
  vss_nil)
  (vss_cons (vs_if (vt_cmp (op_eq.or (op_eqD hu64)) (nomark _) ov_eq fEqG_mono (vo_rd (pv 1)) (vo_val ve_int))
  (vss_one (vs_ret (ve_bin op_sub ov_I0 fI0_mono (vo_val (ve_call V__law_draw gd (hr.mono (by decide)) rfl (He.glo_ok inK ns (c.fact 29 rfl)) F__law_draw.kp (B__law_draw : Binds K _ _ _) (va_cons (vo_mt (pv 0)) (va_cons (vo_val ve_int) va_nil)))) (vo_val ve_int))))
  vss_nil)
  (vss_one (vs_ret (ve_bin op_addV ov_add fAdd_mono (vo_val (ve_bin op_sub ov_I0 fI0_mono (vo_val (ve_call V__law_draw gd (hr.mono (by decide)) rfl (He.glo_ok inK ns (c.fact 29 rfl)) F__law_draw.kp (B__law_draw : Binds K _ _ _) (va_cons (vo_mt (pv 0)) (va_cons (vo_val (ve_bin op_sub ov_I0 fI0_mono (vo_val (ve_bin op_mul ov_II fII_mono (vo_val ve_int) (vo_val (ve_bin op_pow ov_II fII_mono (vo_val ve_int) (vo_val ve_int))))) (vo_val ve_int))) va_nil)))) (vo_val (ve_bin op_mul ov_II fII_mono (vo_val ve_int) (vo_val (ve_bin op_pow ov_II fII_mono (vo_val ve_int) (vo_val ve_int))))))) (vo_val ve_int)))))))
theorem v__law_way (inK : K.In h) (ns : h.Ns mainGlobals mg) (c : SaysX fa cs fn K) : ∃ fd, FunD K "_law_way" "_law_way" (defArgs s__law_way) (defBody s__law_way) (defScope s__law_way) (e__law_way.dvs K) (e__law_way.kws K) (He.ga K "_law_way") fd ∧ FnV P w K mg base 2 (He.ga K "_law_way") fd ["bag"] d__law_way := by
  obtain ⟨fd, F⟩ := c.fun_ 19 (d := e__law_way) rfl
  obtain ⟨fd__law_draw, F__law_draw, V__law_draw⟩ := v__law_draw (P := P) (w := w) (base := base) inK ns c
  have B__law_draw : Binds K fd__law_draw ["bag", "upto"] [] := FunD.bindsN F__law_draw fun _ _ _ _ _ _ us hl => match us, hl with | [_, _], _ => rfl
  refine ⟨fd, F, fnv_by (N := ["bag"]) (ps := ["bag"]) F ⟨rfl, rfl, rfl, by decide +kernel, rfl, by decide +kernel, by decide +kernel⟩ (by decide) fun cdv A outer s H E G gd hr => ?_⟩
  have ndN : (["bag"] : List Str).Nodup := by decide +kernel
  have hu64 := room64 hr
  have hu65 := room65 hr
  have hu66 := room66 hr
  exact (vss_one (vs_ret (ve_ix (vo_val (ve_lst (vl_cons ve_str (vl_cons ve_str vl_nil)))) (vo_val (ve_call V__law_draw gd (hr.mono (by decide)) rfl (He.glo_ok inK ns (c.fact 29 rfl)) F__law_draw.kp (B__law_draw : Binds K _ _ _) (va_cons (vo_mt (pv 0)) (va_cons (vo_val ve_int) va_nil)))) (by intro _ _; rfl))))
theorem v__law_mark (inK : K.In h) (ns : h.Ns mainGlobals mg) (c : SaysX fa cs fn K) : ∃ fd, FunD K "_law_mark" "_law_mark" (defArgs s__law_mark) (defBody s__law_mark) (defScope s__law_mark) (e__law_mark.dvs K) (e__law_mark.kws K) (He.ga K "_law_mark") fd ∧ FnV P w K mg base 3 (He.ga K "_law_mark") fd ["bag", "wide"] d__law_mark := by
  obtain ⟨fd, F⟩ := c.fun_ 20 (d := e__law_mark) rfl
  obtain ⟨fd__law_draw, F__law_draw, V__law_draw⟩ := v__law_draw (P := P) (w := w) (base := base) inK ns c
  have B__law_draw : Binds K fd__law_draw ["bag", "upto"] [] := FunD.bindsN F__law_draw fun _ _ _ _ _ _ us hl => match us, hl with | [_, _], _ => rfl
  obtain ⟨fd__law_way, F__law_way, V__law_way⟩ := v__law_way (P := P) (w := w) (base := base) inK ns c
  have B__law_way : Binds K fd__law_way ["bag"] [] := FunD.bindsN F__law_way fun _ _ _ _ _ _ us hl => match us, hl with | [_], _ => rfl
  obtain ⟨fd__law_number, F__law_number, V__law_number⟩ := v__law_number (P := P) (w := w) (base := base) inK ns c
  have B__law_number : Binds K fd__law_number ["bag"] [] := FunD.bindsN F__law_number fun _ _ _ _ _ _ us hl => match us, hl with | [_], _ => rfl
  refine ⟨fd, F, fnv_by (N := ["bag", "wide"]) (ps := ["bag", "wide"]) F ⟨rfl, rfl, rfl, by decide +kernel, rfl, by decide +kernel, by decide +kernel⟩ (by decide) fun cdv A outer s H E G gd hr => ?_⟩
  have ndN : (["bag", "wide"] : List Str).Nodup := by decide +kernel
  have hu64 := room64 hr
  have hu65 := room65 hr
  have hu66 := room66 hr
  exact (vss_one (vs_ret (ve_tup (vl_cons (ve_call V__law_draw gd (hr.mono (by decide)) rfl (He.glo_ok inK ns (c.fact 29 rfl)) F__law_draw.kp (B__law_draw : Binds K _ _ _) (va_cons (vo_mt (pv 0)) (va_cons (vo_rd (pv 1)) va_nil))) (vl_cons (ve_call V__law_way gd (hr.mono (by decide)) rfl (He.glo_ok inK ns (c.fact 30 rfl)) F__law_way.kp (B__law_way : Binds K _ _ _) (va_cons (vo_mt (pv 0)) va_nil)) (vl_cons (ve_call V__law_number gd (hr.mono (by decide)) rfl (He.glo_ok inK ns (c.fact 31 rfl)) F__law_number.kp (B__law_number : Binds K _ _ _) (va_cons (vo_mt (pv 0)) va_nil)) vl_nil))))))
theorem v__law_two (inK : K.In h) (ns : h.Ns mainGlobals mg) (c : SaysX fa cs fn K) : ∃ fd, FunD K "_law_two" "_law_two" (defArgs s__law_two) (defBody s__law_two) (defScope s__law_two) (e__law_two.dvs K) (e__law_two.kws K) (He.ga K "_law_two") fd ∧ FnV P w K mg base 2 (He.ga K "_law_two") fd ["bag", "wide"] d__law_two := by
  obtain ⟨fd, F⟩ := c.fun_ 21 (d := e__law_two) rfl
  obtain ⟨fd__law_draw, F__law_draw, V__law_draw⟩ := v__law_draw (P := P) (w := w) (base := base) inK ns c
  have B__law_draw : Binds K fd__law_draw ["bag", "upto"] [] := FunD.bindsN F__law_draw fun _ _ _ _ _ _ us hl => match us, hl with | [_, _], _ => rfl
  refine ⟨fd, F, fnv_by (N := ["bag", "wide", "low"]) (ps := ["bag", "wide"]) F ⟨rfl, rfl, rfl, by decide +kernel, rfl, by decide +kernel, by decide +kernel⟩ (by decide) fun cdv A outer s H E G gd hr => ?_⟩
  have ndN : (["bag", "wide", "low"] : List Str).Nodup := by decide +kernel
  have hu64 := room64 hr
  have hu65 := room65 hr
  have hu66 := room66 hr
  exact (vss_cons (vs_set ndN rfl (by first | exact Or.inl rfl | exact Or.inr rfl) (ve_call V__law_draw gd (hr.mono (by decide)) rfl (He.glo_ok inK ns (c.fact 29 rfl)) F__law_draw.kp (B__law_draw : Binds K _ _ _) (va_cons (vo_mt (pv 0)) (va_cons (vo_val (ve_bin op_sub ov_I0 fI0_mono (vo_rd (pv 1)) (vo_val ve_int))) va_nil))))
  (vss_one (vs_ret (ve_tup (vl_cons (ve_var (pv 2)) (vl_cons (ve_bin op_addV ov_add fAdd_mono (vo_val (ve_bin op_addV ov_add fAdd_mono (vo_rd (pv 2)) (vo_val ve_int))) (vo_val (ve_call V__law_draw gd (hr.mono (by decide)) rfl (He.glo_ok inK ns (c.fact 29 rfl)) F__law_draw.kp (B__law_draw : Binds K _ _ _) (va_cons (vo_mt (pv 0)) (va_cons (vo_val (ve_bin op_sub ov_I0 fI0_mono (vo_val (ve_bin op_sub ov_I0 fI0_mono (vo_rd (pv 1)) (vo_val ve_int))) (vo_rd (pv 2)))) va_nil))))) vl_nil))))))
theorem v__law_term (inK : K.In h) (ns : h.Ns mainGlobals mg) (c : SaysX fa cs fn K) : ∃ fd, FunD K "_law_term" "_law_term" (defArgs s__law_term) (defBody s__law_term) (defScope s__law_term) (e__law_term.dvs K) (e__law_term.kws K) (He.ga K "_law_term") fd ∧ FnV P w K mg base 4 (He.ga K "_law_term") fd ["bag", "wide"] d__law_term := by
  obtain ⟨fd, F⟩ := c.fun_ 22 (d := e__law_term) rfl
  obtain ⟨fd__law_draw, F__law_draw, V__law_draw⟩ := v__law_draw (P := P) (w := w) (base := base) inK ns c
  have B__law_draw : Binds K fd__law_draw ["bag", "upto"] [] := FunD.bindsN F__law_draw fun _ _ _ _ _ _ us hl => match us, hl with | [_, _], _ => rfl
  obtain ⟨fd__law_mark, F__law_mark, V__law_mark⟩ := v__law_mark (P := P) (w := w) (base := base) inK ns c
  have B__law_mark : Binds K fd__law_mark ["bag", "wide"] [] := FunD.bindsN F__law_mark fun _ _ _ _ _ _ us hl => match us, hl with | [_, _], _ => rfl
  obtain ⟨fd__law_two, F__law_two, V__law_two⟩ := v__law_two (P := P) (w := w) (base := base) inK ns c
  have B__law_two : Binds K fd__law_two ["bag", "wide"] [] := FunD.bindsN F__law_two fun _ _ _ _ _ _ us hl => match us, hl with | [_, _], _ => rfl
  obtain ⟨fd__law_number, F__law_number, V__law_number⟩ := v__law_number (P := P) (w := w) (base := base) inK ns c
  have B__law_number : Binds K fd__law_number ["bag"] [] := FunD.bindsN F__law_number fun _ _ _ _ _ _ us hl => match us, hl with | [_], _ => rfl
  obtain ⟨fd__law_way, F__law_way, V__law_way⟩ := v__law_way (P := P) (w := w) (base := base) inK ns c
  have B__law_way : Binds K fd__law_way ["bag"] [] := FunD.bindsN F__law_way fun _ _ _ _ _ _ us hl => match us, hl with | [_], _ => rfl
  refine ⟨fd, F, fnv_by (N := ["bag", "wide", "kind", "low", "high"]) (ps := ["bag", "wide"]) F ⟨rfl, rfl, rfl, by decide +kernel, rfl, by decide +kernel, by decide +kernel⟩ (by decide) fun cdv A outer s H E G gd hr => ?_⟩
  have ndN : (["bag", "wide", "kind", "low", "high"] : List Str).Nodup := by decide +kernel
  have hu64 := room64 hr
  have hu65 := room65 hr
  have hu66 := room66 hr
  exact (vss_cons (vs_set ndN rfl (by first | exact Or.inl rfl | exact Or.inr rfl) (ve_call V__law_draw gd (hr.mono (by decide)) rfl (He.glo_ok inK ns (c.fact 29 rfl)) F__law_draw.kp (B__law_draw : Binds K _ _ _) (va_cons (vo_mt (pv 0)) (va_cons (vo_val ve_int) va_nil))))
  (vss_cons (vs_if (vt_cmp (op_eq.or (op_eqD hu64)) (nomark _) ov_eq fEqG_mono (vo_rd (pv 2)) (vo_val ve_int))
  (vss_one (vs_ret (ve_tup (vl_cons ve_str (vl_cons (ve_call V__law_mark gd (hr.mono (by decide)) rfl (He.glo_ok inK ns (c.fact 32 rfl)) F__law_mark.kp (B__law_mark : Binds K _ _ _) (va_cons (vo_mt (pv 0)) (va_cons (vo_rd (pv 1)) va_nil))) vl_nil)))))
  vss_nil)
  (vss_cons (vs_if (VW.vt (vw_or (vt_cmp op_lt (nomark _) ov_IB fIB_mono (vo_rd (pv 2)) (vo_val ve_int)) (vw_or1 (vt_cmp (op_eq.or (op_eqD hu64)) (nomark _) ov_eq fEqG_mono (vo_rd (pv 1)) (vo_val ve_int)))))
  (vss_one (vs_ret (ve_tup (vl_cons ve_str (vl_cons (ve_call V__law_mark gd (hr.mono (by decide)) rfl (He.glo_ok inK ns (c.fact 32 rfl)) F__law_mark.kp (B__law_mark : Binds K _ _ _) (va_cons (vo_mt (pv 0)) (va_cons (vo_rd (pv 1)) va_nil))) (vl_cons (ve_call V__law_mark gd (hr.mono (by decide)) rfl (He.glo_ok inK ns (c.fact 32 rfl)) F__law_mark.kp (B__law_mark : Binds K _ _ _) (va_cons (vo_mt (pv 0)) (va_cons (vo_rd (pv 1)) va_nil))) vl_nil))))))
  vss_nil)
  (vss_cons (vs_asg (ve_call V__law_two gd (hr.mono (by decide)) rfl (He.glo_ok inK ns (c.fact 33 rfl)) F__law_two.kp (B__law_two : Binds K _ _ _) (va_cons (vo_mt (pv 0)) (va_cons (vo_rd (pv 1)) va_nil))) (vg_tup rfl (vgs_cons (vg_name ndN rfl (by first | exact Or.inl rfl | exact Or.inr rfl)) (vgs_cons (vg_name ndN rfl (by first | exact Or.inl rfl | exact Or.inr rfl)) vgs_nil))))
  (vss_cons (vs_if (vt_cmp (op_eq.or (op_eqD hu64)) (nomark _) ov_eq fEqG_mono (vo_rd (pv 2)) (vo_val ve_int))
  (vss_one (vs_ret (ve_tup (vl_cons ve_str (vl_cons (ve_var (pv 3)) (vl_cons (ve_var (pv 4)) (vl_cons (ve_call V__law_number gd (hr.mono (by decide)) rfl (He.glo_ok inK ns (c.fact 31 rfl)) F__law_number.kp (B__law_number : Binds K _ _ _) (va_cons (vo_mt (pv 0)) va_nil)) vl_nil)))))))
  vss_nil)
  (vss_cons (vs_if (vt_cmp (op_eq.or (op_eqD hu64)) (nomark _) ov_eq fEqG_mono (vo_rd (pv 2)) (vo_val ve_int))
  (vss_one (vs_ret (ve_tup (vl_cons ve_str (vl_cons (ve_var (pv 4)) (vl_cons (ve_var (pv 3)) (vl_cons (ve_call V__law_number gd (hr.mono (by decide)) rfl (He.glo_ok inK ns (c.fact 31 rfl)) F__law_number.kp (B__law_number : Binds K _ _ _) (va_cons (vo_mt (pv 0)) va_nil)) vl_nil)))))))
  vss_nil)
  (vss_one (vs_ret (ve_tup (vl_cons ve_str (vl_cons (ve_var (pv 3)) (vl_cons (ve_var (pv 4)) (vl_cons (ve_call V__law_way gd (hr.mono (by decide)) rfl (He.glo_ok inK ns (c.fact 30 rfl)) F__law_way.kp (B__law_way : Binds K _ _ _) (va_cons (vo_mt (pv 0)) va_nil)) (vl_cons (ve_call V__law_number gd (hr.mono (by decide)) rfl (He.glo_ok inK ns (c.fact 31 rfl)) F__law_number.kp (B__law_number : Binds K _ _ _) (va_cons (vo_mt (pv 0)) va_nil)) vl_nil))))))))))))))
theorem v__law_contrary (inK : K.In h) (ns : h.Ns mainGlobals mg) (c : SaysX fa cs fn K) : ∃ fd, FunD K "_law_contrary" "_law_contrary" (defArgs s__law_contrary) (defBody s__law_contrary) (defScope s__law_contrary) (e__law_contrary.dvs K) (e__law_contrary.kws K) (He.ga K "_law_contrary") fd ∧ FnV P w K mg base 1 (He.ga K "_law_contrary") fd ["mark"] d__law_contrary := by
  obtain ⟨fd, F⟩ := c.fun_ 23 (d := e__law_contrary) rfl
  refine ⟨fd, F, fnv_by (N := ["mark"]) (ps := ["mark"]) F ⟨rfl, rfl, rfl, by decide +kernel, rfl, by decide +kernel, by decide +kernel⟩ (by decide) fun cdv A outer s H E G gd hr => ?_⟩
  have ndN : (["mark"] : List Str).Nodup := by decide +kernel
  have hu64 := room64 hr
  have hu65 := room65 hr
  have hu66 := room66 hr
  exact (vss_cons (vs_if (vt_cmp (op_eq.or (op_eqD hu64)) (nomark _) ov_eq fEqG_mono (vo_val (ve_ix (vo_rd (pv 0)) (vo_val ve_int) (by intro _ _; rfl))) (vo_val ve_str))
  (vss_one (vs_ret (ve_tup (vl_cons (ve_ix (vo_rd (pv 0)) (vo_val ve_int) (by intro _ _; rfl)) (vl_cons ve_str (vl_cons (ve_bin op_sub ov_I0 fI0_mono (vo_val (ve_ix (vo_rd (pv 0)) (vo_val ve_int) (by intro _ _; rfl))) (vo_val ve_int)) vl_nil))))))
  vss_nil)
  (vss_one (vs_ret (ve_tup (vl_cons (ve_ix (vo_rd (pv 0)) (vo_val ve_int) (by intro _ _; rfl)) (vl_cons ve_str (vl_cons (ve_bin op_addV ov_add fAdd_mono (vo_val (ve_ix (vo_rd (pv 0)) (vo_val ve_int) (by intro _ _; rfl))) (vo_val ve_int)) vl_nil)))))))
theorem v__law_oppose (inK : K.In h) (ns : h.Ns mainGlobals mg) (c : SaysX fa cs fn K) : ∃ fd, FunD K "_law_oppose" "_law_oppose" (defArgs s__law_oppose) (defBody s__law_oppose) (defScope s__law_oppose) (e__law_oppose.dvs K) (e__law_oppose.kws K) (He.ga K "_law_oppose") fd ∧ FnV P w K mg base 1 (He.ga K "_law_oppose") fd ["one", "two"] d__law_oppose := by
  obtain ⟨fd, F⟩ := c.fun_ 24 (d := e__law_oppose) rfl
  refine ⟨fd, F, fnv_by (N := ["one", "two"]) (ps := ["one", "two"]) F ⟨rfl, rfl, rfl, by decide +kernel, rfl, by decide +kernel, by decide +kernel⟩ (by decide) fun cdv A outer s H E G gd hr => ?_⟩
  have ndN : (["one", "two"] : List Str).Nodup := by decide +kernel
  have hu64 := room64 hr
  have hu65 := room65 hr
  have hu66 := room66 hr
  exact (vss_cons (vs_if (VW.vt (vw_or (vt_cmp (op_ne.or (op_neD hu64)) (nomark _) ov_ne fEqG_mono (vo_val (ve_ix (vo_rd (pv 0)) (vo_val ve_int) (by intro _ _; rfl))) (vo_val (ve_ix (vo_rd (pv 1)) (vo_val ve_int) (by intro _ _; rfl)))) (vw_or1 (vt_cmp (op_eq.or (op_eqD hu64)) (nomark _) ov_eq fEqG_mono (vo_val (ve_ix (vo_rd (pv 0)) (vo_val ve_int) (by intro _ _; rfl))) (vo_val (ve_ix (vo_rd (pv 1)) (vo_val ve_int) (by intro _ _; rfl)))))))
  (vss_one (vs_ret ve_bl))
  vss_nil)
  (vss_cons (vs_if (vt_cmp (op_eq.or (op_eqD hu64)) (nomark _) ov_eq fEqG_mono (vo_val (ve_ix (vo_rd (pv 0)) (vo_val ve_int) (by intro _ _; rfl))) (vo_val ve_str))
  (vss_one (vs_ret (ve_cmp op_gt (nomark _) ov_IB fIB_mono (vo_val (ve_ix (vo_rd (pv 0)) (vo_val ve_int) (by intro _ _; rfl))) (vo_val (ve_ix (vo_rd (pv 1)) (vo_val ve_int) (by intro _ _; rfl))))))
  vss_nil)
  (vss_one (vs_ret (ve_cmp op_gt (nomark _) ov_IB fIB_mono (vo_val (ve_ix (vo_rd (pv 1)) (vo_val ve_int) (by intro _ _; rfl))) (vo_val (ve_ix (vo_rd (pv 0)) (vo_val ve_int) (by intro _ _; rfl))))))))
theorem v__law_forced (inK : K.In h) (ns : h.Ns mainGlobals mg) (c : SaysX fa cs fn K) : ∃ fd, FunD K "_law_forced" "_law_forced" (defArgs s__law_forced) (defBody s__law_forced) (defScope s__law_forced) (e__law_forced.dvs K) (e__law_forced.kws K) (He.ga K "_law_forced") fd ∧ FnV P w K mg base 2 (He.ga K "_law_forced") fd ["term", "mark"] d__law_forced := by
  obtain ⟨fd, F⟩ := c.fun_ 25 (d := e__law_forced) rfl
  obtain ⟨fd__law_oppose, F__law_oppose, V__law_oppose⟩ := v__law_oppose (P := P) (w := w) (base := base) inK ns c
  have B__law_oppose : Binds K fd__law_oppose ["one", "two"] [] := FunD.bindsN F__law_oppose fun _ _ _ _ _ _ us hl => match us, hl with | [_, _], _ => rfl
  refine ⟨fd, F, fnv_by (N := ["term", "mark", "dial", "hand", "much", "found"]) (ps := ["term", "mark"]) F ⟨rfl, rfl, rfl, by decide +kernel, rfl, by decide +kernel, by decide +kernel⟩ (by decide) fun cdv A outer s H E G gd hr => ?_⟩
  have ndN : (["term", "mark", "dial", "hand", "much", "found"] : List Str).Nodup := by decide +kernel
  have hu64 := room64 hr
  have hu65 := room65 hr
  have hu66 := room66 hr
  exact (vss_cons (vs_asg (ve_var (pv 1)) (vg_tup rfl (vgs_cons (vg_name ndN rfl (by first | exact Or.inl rfl | exact Or.inr rfl)) (vgs_cons (vg_name ndN rfl (by first | exact Or.inl rfl | exact Or.inr rfl)) (vgs_cons (vg_name ndN rfl (by first | exact Or.inl rfl | exact Or.inr rfl)) vgs_nil)))))
  (vss_cons (vs_if (VW.vt (vw_and (vt_cmp (op_eq.or (op_eqD hu64)) (nomark _) ov_eq fEqG_mono (vo_val (ve_ix (vo_rd (pv 0)) (vo_val ve_int) (by intro _ _; rfl))) (vo_val ve_str)) (vw_and (vt_cmp (op_eq.or (op_eqD hu64)) (nomark _) ov_eq fEqG_mono (vo_rd (pv 2)) (vo_val (ve_ix (vo_rd (pv 0)) (vo_val ve_int) (by intro _ _; rfl)))) (vw_and1 (vt_cmp (op_eq.or (op_eqD hu64)) (nomark _) ov_eq fEqG_mono (vo_rd (pv 3)) (vo_val ve_str))))))
  (vss_one (vs_ret (ve_lst (vl_cons (ve_tup (vl_cons (ve_ix (vo_rd (pv 0)) (vo_val ve_int) (by intro _ _; rfl)) (vl_cons ve_str (vl_cons (ve_bin op_sub ov_I0 fI0_mono (vo_rd (pv 4)) (vo_val (ve_ix (vo_rd (pv 0)) (vo_val ve_int) (by intro _ _; rfl)))) vl_nil)))) vl_nil))))
  vss_nil)
  (vss_cons (vs_if (VW.vt (vw_and (vt_cmp (op_eq.or (op_eqD hu64)) (nomark _) ov_eq fEqG_mono (vo_val (ve_ix (vo_rd (pv 0)) (vo_val ve_int) (by intro _ _; rfl))) (vo_val ve_str)) (vw_and (vt_cmp (op_eq.or (op_eqD hu64)) (nomark _) ov_eq fEqG_mono (vo_rd (pv 2)) (vo_val (ve_ix (vo_rd (pv 0)) (vo_val ve_int) (by intro _ _; rfl)))) (vw_and1 (vt_cmp (op_eq.or (op_eqD hu64)) (nomark _) ov_eq fEqG_mono (vo_rd (pv 3)) (vo_val ve_str))))))
  (vss_one (vs_ret (ve_lst (vl_cons (ve_tup (vl_cons (ve_ix (vo_rd (pv 0)) (vo_val ve_int) (by intro _ _; rfl)) (vl_cons ve_str (vl_cons (ve_bin op_addV ov_add fAdd_mono (vo_rd (pv 4)) (vo_val (ve_ix (vo_rd (pv 0)) (vo_val ve_int) (by intro _ _; rfl)))) vl_nil)))) vl_nil))))
  vss_nil)
  (vss_cons (vs_if (VW.vt (vw_and (vt_cmp (op_eq.or (op_eqD hu64)) (nomark _) ov_eq fEqG_mono (vo_val (ve_ix (vo_rd (pv 0)) (vo_val ve_int) (by intro _ _; rfl))) (vo_val ve_str)) (vw_and (vt_cmp (op_inV hu65) rfl ov_in fInG_mono (vo_rd (pv 2)) (vo_val (ve_lst (vl_cons (ve_ix (vo_rd (pv 0)) (vo_val ve_int) (by intro _ _; rfl)) (vl_cons (ve_ix (vo_rd (pv 0)) (vo_val ve_int) (by intro _ _; rfl)) vl_nil))))) (vw_and1 (vt_cmp (op_ne.or (op_neD hu64)) (nomark _) ov_ne fEqG_mono (vo_rd (pv 3)) (vo_val (ve_ix (vo_rd (pv 0)) (vo_val ve_int) (by intro _ _; rfl))))))))
  (vss_one (vs_ret (ve_lst (vl_cons (ve_tup (vl_cons (ve_bin op_sub ov_I0 fI0_mono (vo_val (ve_bin op_addV ov_add fAdd_mono (vo_val (ve_ix (vo_rd (pv 0)) (vo_val ve_int) (by intro _ _; rfl))) (vo_val (ve_ix (vo_rd (pv 0)) (vo_val ve_int) (by intro _ _; rfl))))) (vo_rd (pv 2))) (vl_cons (ve_ix (vo_rd (pv 0)) (vo_val ve_int) (by intro _ _; rfl)) (vl_cons (ve_bin op_sub ov_I0 fI0_mono (vo_val (ve_ix (vo_rd (pv 0)) (vo_val ve_int) (by intro _ _; rfl))) (vo_rd (pv 4))) vl_nil)))) vl_nil))))
  vss_nil)
  (vss_cons (vs_set ndN rfl (by first | exact Or.inl rfl | exact Or.inr rfl) (ve_lst vl_nil))
  (vss_cons (vs_if (VW.vt (vw_and (vt_cmp (op_eq.or (op_eqD hu64)) (nomark _) ov_eq fEqG_mono (vo_val (ve_ix (vo_rd (pv 0)) (vo_val ve_int) (by intro _ _; rfl))) (vo_val ve_str)) (vw_and1 (vt_tru (vo_val (ve_call V__law_oppose gd (hr.mono (by decide)) rfl (He.glo_ok inK ns (c.fact 34 rfl)) F__law_oppose.kp (B__law_oppose : Binds K _ _ _) (va_cons (vo_rd (pv 1)) (va_cons (vo_val (ve_ix (vo_rd (pv 0)) (vo_val ve_int) (by intro _ _; rfl))) va_nil))))))))
  (vss_one (vs_expr (ve_meth PySem.F.plainAttrs_list PySem.F.slot_list_append (by first | rfl | kernel_rfl) mt_append mv_append fAppend_mono (pv 5) (vl_cons (ve_ix (vo_rd (pv 0)) (vo_val ve_int) (by intro _ _; rfl)) vl_nil))))
  vss_nil)
  (vss_cons (vs_if (VW.vt (vw_and (vt_cmp (op_eq.or (op_eqD hu64)) (nomark _) ov_eq fEqG_mono (vo_val (ve_ix (vo_rd (pv 0)) (vo_val ve_int) (by intro _ _; rfl))) (vo_val ve_str)) (vw_and (vt_tru (vo_val (ve_call V__law_oppose gd (hr.mono (by decide)) rfl (He.glo_ok inK ns (c.fact 34 rfl)) F__law_oppose.kp (B__law_oppose : Binds K _ _ _) (va_cons (vo_rd (pv 1)) (va_cons (vo_val (ve_ix (vo_rd (pv 0)) (vo_val ve_int) (by intro _ _; rfl))) va_nil))))) (vw_and1 (vt_cmp (op_notInV hu65) rfl ov_notIn fInG_mono (vo_val (ve_ix (vo_rd (pv 0)) (vo_val ve_int) (by intro _ _; rfl))) (vo_rd (pv 5)))))))
  (vss_one (vs_expr (ve_meth PySem.F.plainAttrs_list PySem.F.slot_list_append (by first | rfl | kernel_rfl) mt_append mv_append fAppend_mono (pv 5) (vl_cons (ve_ix (vo_rd (pv 0)) (vo_val ve_int) (by intro _ _; rfl)) vl_nil))))
  vss_nil)
  (vss_one (vs_ret (ve_sortSetT rfl hu64 rfl (He.free_ok inK ns (c.fact 35 rfl)) rfl (He.free_ok inK ns (c.fact 36 rfl)) (ve_var (pv 5))))))))))))
theorem v__law_beside (inK : K.In h) (ns : h.Ns mainGlobals mg) (c : SaysX fa cs fn K) : ∃ fd, FunD K "_law_beside" "_law_beside" (defArgs s__law_beside) (defBody s__law_beside) (defScope s__law_beside) (e__law_beside.dvs K) (e__law_beside.kws K) (He.ga K "_law_beside") fd ∧ FnV P w K mg base 3 (He.ga K "_law_beside") fd ["bag", "wide", "term"] d__law_beside := by
  obtain ⟨fd, F⟩ := c.fun_ 26 (d := e__law_beside) rfl
  obtain ⟨fd__law_draw, F__law_draw, V__law_draw⟩ := v__law_draw (P := P) (w := w) (base := base) inK ns c
  have B__law_draw : Binds K fd__law_draw ["bag", "upto"] [] := FunD.bindsN F__law_draw fun _ _ _ _ _ _ us hl => match us, hl with | [_, _], _ => rfl
  obtain ⟨fd__law_way, F__law_way, V__law_way⟩ := v__law_way (P := P) (w := w) (base := base) inK ns c
  have B__law_way : Binds K fd__law_way ["bag"] [] := FunD.bindsN F__law_way fun _ _ _ _ _ _ us hl => match us, hl with | [_], _ => rfl
  obtain ⟨fd__law_number, F__law_number, V__law_number⟩ := v__law_number (P := P) (w := w) (base := base) inK ns c
  have B__law_number : Binds K fd__law_number ["bag"] [] := FunD.bindsN F__law_number fun _ _ _ _ _ _ us hl => match us, hl with | [_], _ => rfl
  refine ⟨fd, F, fnv_by (N := ["bag", "wide", "term", "dial", "hand", "much"]) (ps := ["bag", "wide", "term"]) F ⟨rfl, rfl, rfl, by decide +kernel, rfl, by decide +kernel, by decide +kernel⟩ (by decide) fun cdv A outer s H E G gd hr => ?_⟩
  have ndN : (["bag", "wide", "term", "dial", "hand", "much"] : List Str).Nodup := by decide +kernel
  have hu64 := room64 hr
  have hu65 := room65 hr
  have hu66 := room66 hr
  exact (vss_cons (vs_if (VW.vt (vw_or (vt_cmp (op_eq.or (op_eqD hu64)) (nomark _) ov_eq fEqG_mono (vo_val (ve_ix (vo_rd (pv 2)) (vo_val ve_int) (by intro _ _; rfl))) (vo_val ve_str)) (vw_or1 (vt_cmp (op_eq.or (op_eqD hu64)) (nomark _) ov_eq fEqG_mono (vo_val (ve_ix (vo_rd (pv 2)) (vo_val ve_int) (by intro _ _; rfl))) (vo_val ve_str)))))
  (vss_cons (vs_asg (ve_ix (vo_rd (pv 2)) (vo_val (ve_bin op_addV ov_add fAdd_mono (vo_val ve_int) (vo_val (ve_call V__law_draw gd (hr.mono (by decide)) rfl (He.glo_ok inK ns (c.fact 29 rfl)) F__law_draw.kp (B__law_draw : Binds K _ _ _) (va_cons (vo_mt (pv 0)) (va_cons (vo_val (ve_bin op_sub ov_I0 fI0_mono (vo_val (ve_callB cr_lenV cv_len fLen_mono rfl (He.free_ok inK ns (c.fact 6 rfl)) (by decide +kernel) (va_cons (vo_rd (pv 2)) va_nil))) (vo_val ve_int))) va_nil)))))) (by intro _ _; rfl)) (vg_tup rfl (vgs_cons (vg_name ndN rfl (by first | exact Or.inl rfl | exact Or.inr rfl)) (vgs_cons (vg_name ndN rfl (by first | exact Or.inl rfl | exact Or.inr rfl)) (vgs_cons (vg_name ndN rfl (by first | exact Or.inl rfl | exact Or.inr rfl)) vgs_nil)))))
  (vss_cons (vs_if (vt_cmp op_gt (nomark _) ov_IB fIB_mono (vo_val (ve_call V__law_draw gd (hr.mono (by decide)) rfl (He.glo_ok inK ns (c.fact 29 rfl)) F__law_draw.kp (B__law_draw : Binds K _ _ _) (va_cons (vo_mt (pv 0)) (va_cons (vo_val ve_int) va_nil)))) (vo_val ve_int))
  (vss_one (vs_set ndN rfl (by first | exact Or.inl rfl | exact Or.inr rfl) (ve_ix (vo_val (ve_lst (vl_cons ve_str (vl_cons ve_str vl_nil)))) (vo_val (ve_callTy call_int1 cv_int1 fInt1_mono rfl (He.free_ok inK ns (c.fact 1 rfl)) (by decide +kernel) (va_cons (vo_val (ve_cmp (op_eq.or (op_eqD hu64)) (nomark _) ov_eq fEqG_mono (vo_rd (pv 4)) (vo_val ve_str))) va_nil))) (by intro _ _; rfl))))
  vss_nil)
  (vss_one (vs_ret (ve_tup (vl_cons (ve_var (pv 3)) (vl_cons (ve_var (pv 4)) (vl_cons (ve_bin op_sub ov_I0 fI0_mono (vo_val (ve_bin op_addV ov_add fAdd_mono (vo_rd (pv 5)) (vo_val (ve_call V__law_draw gd (hr.mono (by decide)) rfl (He.glo_ok inK ns (c.fact 29 rfl)) F__law_draw.kp (B__law_draw : Binds K _ _ _) (va_cons (vo_mt (pv 0)) (va_cons (vo_val ve_int) va_nil)))))) (vo_val ve_int)) vl_nil))))))))
  vss_nil)
  (vss_cons (vs_par rfl ndN rfl rfl (by decide) rfl rfl (vl_cons (ve_ix (vo_rd (pv 2)) (vo_val (ve_bin op_addV ov_add fAdd_mono (vo_val ve_int) (vo_val (ve_call V__law_draw gd (hr.mono (by decide)) rfl (He.glo_ok inK ns (c.fact 29 rfl)) F__law_draw.kp (B__law_draw : Binds K _ _ _) (va_cons (vo_mt (pv 0)) (va_cons (vo_val ve_int) va_nil)))))) (by intro _ _; rfl)) (vl_cons (ve_call V__law_way gd (hr.mono (by decide)) rfl (He.glo_ok inK ns (c.fact 30 rfl)) F__law_way.kp (B__law_way : Binds K _ _ _) (va_cons (vo_mt (pv 0)) va_nil)) vl_nil)) rfl)
  (vss_one (vs_ret (ve_tup (vl_cons (ve_var (pv 3)) (vl_cons (ve_var (pv 4)) (vl_cons (ve_call V__law_number gd (hr.mono (by decide)) rfl (He.glo_ok inK ns (c.fact 31 rfl)) F__law_number.kp (B__law_number : Binds K _ _ _) (va_cons (vo_mt (pv 0)) va_nil)) vl_nil))))))))
theorem v__law_far (inK : K.In h) (ns : h.Ns mainGlobals mg) (c : SaysX fa cs fn K) : ∃ fd, FunD K "_law_far" "_law_far" (defArgs s__law_far) (defBody s__law_far) (defScope s__law_far) (e__law_far.dvs K) (e__law_far.kws K) (He.ga K "_law_far") fd ∧ FnV P w K mg base 3 (He.ga K "_law_far") fd ["bag", "wide"] d__law_far := by
  obtain ⟨fd, F⟩ := c.fun_ 27 (d := e__law_far) rfl
  obtain ⟨fd__law_two, F__law_two, V__law_two⟩ := v__law_two (P := P) (w := w) (base := base) inK ns c
  have B__law_two : Binds K fd__law_two ["bag", "wide"] [] := FunD.bindsN F__law_two fun _ _ _ _ _ _ us hl => match us, hl with | [_, _], _ => rfl
  obtain ⟨fd__law_draw, F__law_draw, V__law_draw⟩ := v__law_draw (P := P) (w := w) (base := base) inK ns c
  have B__law_draw : Binds K fd__law_draw ["bag", "upto"] [] := FunD.bindsN F__law_draw fun _ _ _ _ _ _ us hl => match us, hl with | [_, _], _ => rfl
  obtain ⟨fd__law_way, F__law_way, V__law_way⟩ := v__law_way (P := P) (w := w) (base := base) inK ns c
  have B__law_way : Binds K fd__law_way ["bag"] [] := FunD.bindsN F__law_way fun _ _ _ _ _ _ us hl => match us, hl with | [_], _ => rfl
  refine ⟨fd, F, fnv_by (N := ["bag", "wide", "low", "high", "by", "much", "flip", "turn", "mark"]) (ps := ["bag", "wide"]) F ⟨rfl, rfl, rfl, by decide +kernel, rfl, by decide +kernel, by decide +kernel⟩ (by decide) fun cdv A outer s H E G gd hr => ?_⟩
  have ndN : (["bag", "wide", "low", "high", "by", "much", "flip", "turn", "mark"] : List Str).Nodup := by decide +kernel
  have hu64 := room64 hr
  have hu65 := room65 hr
  have hu66 := room66 hr
  exact (vss_cons (vs_asg (ve_call V__law_two gd (hr.mono (by decide)) rfl (He.glo_ok inK ns (c.fact 33 rfl)) F__law_two.kp (B__law_two : Binds K _ _ _) (va_cons (vo_mt (pv 0)) (va_cons (vo_rd (pv 1)) va_nil))) (vg_tup rfl (vgs_cons (vg_name ndN rfl (by first | exact Or.inl rfl | exact Or.inr rfl)) (vgs_cons (vg_name ndN rfl (by first | exact Or.inl rfl | exact Or.inr rfl)) vgs_nil))))
  (vss_cons (vs_par rfl ndN rfl rfl (by decide) rfl rfl (vl_cons (ve_bin op_sub ov_I0 fI0_mono (vo_val (ve_bin op_sub ov_I0 fI0_mono (vo_val (ve_bin op_pow ov_II fII_mono (vo_val ve_int) (vo_val ve_int))) (vo_val ve_int))) (vo_val (ve_call V__law_draw gd (hr.mono (by decide)) rfl (He.glo_ok inK ns (c.fact 29 rfl)) F__law_draw.kp (B__law_draw : Binds K _ _ _) (va_cons (vo_mt (pv 0)) (va_cons (vo_val ve_int) va_nil))))) (vl_cons (ve_bin op_sub ov_I0 fI0_mono (vo_val (ve_bin op_sub ov_I0 fI0_mono (vo_val (ve_bin op_pow ov_II fII_mono (vo_val ve_int) (vo_val ve_int))) (vo_val ve_int))) (vo_val (ve_call V__law_draw gd (hr.mono (by decide)) rfl (He.glo_ok inK ns (c.fact 29 rfl)) F__law_draw.kp (B__law_draw : Binds K _ _ _) (va_cons (vo_mt (pv 0)) (va_cons (vo_val ve_int) va_nil))))) vl_nil)) rfl)
  (vss_cons (vs_par rfl ndN rfl rfl (by decide) rfl rfl (vl_cons (ve_bin op_sub ov_I0 fI0_mono (vo_val (ve_bin op_mul ov_II fII_mono (vo_val ve_int) (vo_val (ve_call V__law_draw gd (hr.mono (by decide)) rfl (He.glo_ok inK ns (c.fact 29 rfl)) F__law_draw.kp (B__law_draw : Binds K _ _ _) (va_cons (vo_mt (pv 0)) (va_cons (vo_val ve_int) va_nil)))))) (vo_val ve_int)) (vl_cons (ve_bin op_sub ov_I0 fI0_mono (vo_val (ve_bin op_mul ov_II fII_mono (vo_val ve_int) (vo_val (ve_call V__law_draw gd (hr.mono (by decide)) rfl (He.glo_ok inK ns (c.fact 29 rfl)) F__law_draw.kp (B__law_draw : Binds K _ _ _) (va_cons (vo_mt (pv 0)) (va_cons (vo_val ve_int) va_nil)))))) (vo_val ve_int)) vl_nil)) rfl)
  (vss_cons (vs_set ndN rfl (by first | exact Or.inl rfl | exact Or.inr rfl) (ve_tup (vl_cons (ve_ix (vo_val (ve_lst (vl_cons (ve_var (pv 2)) (vl_cons (ve_var (pv 3)) vl_nil)))) (vo_val (ve_call V__law_draw gd (hr.mono (by decide)) rfl (He.glo_ok inK ns (c.fact 29 rfl)) F__law_draw.kp (B__law_draw : Binds K _ _ _) (va_cons (vo_mt (pv 0)) (va_cons (vo_val ve_int) va_nil)))) (by intro _ _; rfl)) (vl_cons (ve_call V__law_way gd (hr.mono (by decide)) rfl (He.glo_ok inK ns (c.fact 30 rfl)) F__law_way.kp (B__law_way : Binds K _ _ _) (va_cons (vo_mt (pv 0)) va_nil)) (vl_cons (ve_bin op_mul ov_II fII_mono (vo_rd (pv 6)) (vo_rd (pv 5))) vl_nil)))))
  (vss_cons (vs_if (vt_cmp (op_eq.or (op_eqD hu64)) (nomark _) ov_eq fEqG_mono (vo_val (ve_call V__law_draw gd (hr.mono (by decide)) rfl (He.glo_ok inK ns (c.fact 29 rfl)) F__law_draw.kp (B__law_draw : Binds K _ _ _) (va_cons (vo_mt (pv 0)) (va_cons (vo_val ve_int) va_nil)))) (vo_val ve_int))
  (vss_one (vs_ret (ve_tup (vl_cons (ve_tup (vl_cons ve_str (vl_cons (ve_var (pv 2)) (vl_cons (ve_var (pv 3)) (vl_cons (ve_call V__law_way gd (hr.mono (by decide)) rfl (He.glo_ok inK ns (c.fact 30 rfl)) F__law_way.kp (B__law_way : Binds K _ _ _) (va_cons (vo_mt (pv 0)) va_nil)) (vl_cons (ve_bin op_mul ov_II fII_mono (vo_rd (pv 7)) (vo_rd (pv 4))) vl_nil)))))) (vl_cons (ve_var (pv 8)) vl_nil)))))
  vss_nil)
  (vss_one (vs_ret (ve_tup (vl_cons (ve_tup (vl_cons ve_str (vl_cons (ve_var (pv 2)) (vl_cons (ve_var (pv 3)) (vl_cons (ve_bin op_mul ov_II fII_mono (vo_rd (pv 7)) (vo_rd (pv 4))) vl_nil))))) (vl_cons (ve_var (pv 8)) vl_nil))))))))))
theorem v_law (inK : K.In h) (ns : h.Ns mainGlobals mg) (c : SaysX fa cs fn K) : ∃ fd, FunD K "law" "law" (defArgs s_law) (defBody s_law) (defScope s_law) (e_law.dvs K) (e_law.kws K) (He.ga K "law") fd ∧ FnV P w K mg base 7 (He.ga K "law") fd ["script"] d_law := by
  obtain ⟨fd, F⟩ := c.fun_ 28 (d := e_law) rfl
  obtain ⟨fd__law_bag, F__law_bag, V__law_bag⟩ := v__law_bag (P := P) (w := w) (base := base) inK ns c
  have B__law_bag : Binds K fd__law_bag ["cell"] [] := FunD.bindsN F__law_bag fun _ _ _ _ _ _ us hl => match us, hl with | [_], _ => rfl
  obtain ⟨fd__law_draw, F__law_draw, V__law_draw⟩ := v__law_draw (P := P) (w := w) (base := base) inK ns c
  have B__law_draw : Binds K fd__law_draw ["bag", "upto"] [] := FunD.bindsN F__law_draw fun _ _ _ _ _ _ us hl => match us, hl with | [_, _], _ => rfl
  obtain ⟨fd__law_term, F__law_term, V__law_term⟩ := v__law_term (P := P) (w := w) (base := base) inK ns c
  have B__law_term : Binds K fd__law_term ["bag", "wide"] [] := FunD.bindsN F__law_term fun _ _ _ _ _ _ us hl => match us, hl with | [_, _], _ => rfl
  obtain ⟨fd__law_mark, F__law_mark, V__law_mark⟩ := v__law_mark (P := P) (w := w) (base := base) inK ns c
  have B__law_mark : Binds K fd__law_mark ["bag", "wide"] [] := FunD.bindsN F__law_mark fun _ _ _ _ _ _ us hl => match us, hl with | [_, _], _ => rfl
  obtain ⟨fd__law_beside, F__law_beside, V__law_beside⟩ := v__law_beside (P := P) (w := w) (base := base) inK ns c
  have B__law_beside : Binds K fd__law_beside ["bag", "wide", "term"] [] := FunD.bindsN F__law_beside fun _ _ _ _ _ _ us hl => match us, hl with | [_, _, _], _ => rfl
  obtain ⟨fd__law_far, F__law_far, V__law_far⟩ := v__law_far (P := P) (w := w) (base := base) inK ns c
  have B__law_far : Binds K fd__law_far ["bag", "wide"] [] := FunD.bindsN F__law_far fun _ _ _ _ _ _ us hl => match us, hl with | [_, _], _ => rfl
  obtain ⟨fd__law_forced, F__law_forced, V__law_forced⟩ := v__law_forced (P := P) (w := w) (base := base) inK ns c
  have B__law_forced : Binds K fd__law_forced ["term", "mark"] [] := FunD.bindsN F__law_forced fun _ _ _ _ _ _ us hl => match us, hl with | [_, _], _ => rfl
  obtain ⟨fd_forced, F_forced, V_forced⟩ := v_forced (P := P) (w := w) (base := base) inK ns c
  have B_forced : Binds K fd_forced ["gauges", "rule", "bound"] [] := FunD.bindsN F_forced fun _ _ _ _ _ _ us hl => match us, hl with | [_, _, _], _ => rfl
  obtain ⟨fd__law_contrary, F__law_contrary, V__law_contrary⟩ := v__law_contrary (P := P) (w := w) (base := base) inK ns c
  have B__law_contrary : Binds K fd__law_contrary ["mark"] [] := FunD.bindsN F__law_contrary fun _ _ _ _ _ _ us hl => match us, hl with | [_], _ => rfl
  refine ⟨fd, F, fnv_by (N := ["script", "cell", "bag", "wide", "near", "term", "mark", "due", "found", "doubled", "opposite"]) (ps := ["script"]) F ⟨rfl, rfl, rfl, by decide +kernel, rfl, by decide +kernel, by decide +kernel⟩ (by decide) fun cdv A outer s H E G gd hr => ?_⟩
  have ndN : (["script", "cell", "bag", "wide", "near", "term", "mark", "due", "found", "doubled", "opposite"] : List Str).Nodup := by decide +kernel
  have hu64 := room64 hr
  have hu65 := room65 hr
  have hu66 := room66 hr
  exact (vss_cons (vs_for rfl (vi_val (ve_bin op_addV ov_add fAdd_mono (vo_val (ve_lst (vl_cons ve_int vl_nil))) (vo_rd (pv 0)))) (vg_name ndN rfl (by first | exact Or.inl rfl | exact Or.inr rfl))
  (vss_cons (vs_set ndN rfl (by first | exact Or.inl rfl | exact Or.inr rfl) (ve_call V__law_bag gd (hr.mono (by decide)) rfl (He.glo_ok inK ns (c.fact 37 rfl)) F__law_bag.kp (B__law_bag : Binds K _ _ _) (va_cons (vo_rd (pv 1)) va_nil)))
  (vss_cons (vs_par rfl ndN rfl rfl (by decide) rfl rfl (vl_cons (ve_bin op_addV ov_add fAdd_mono (vo_val ve_int) (vo_val (ve_call V__law_draw gd (hr.mono (by decide)) rfl (He.glo_ok inK ns (c.fact 29 rfl)) F__law_draw.kp (B__law_draw : Binds K _ _ _) (va_cons (vo_mt (pv 2)) (va_cons (vo_val ve_int) va_nil))))) (vl_cons (ve_call V__law_draw gd (hr.mono (by decide)) rfl (He.glo_ok inK ns (c.fact 29 rfl)) F__law_draw.kp (B__law_draw : Binds K _ _ _) (va_cons (vo_mt (pv 2)) (va_cons (vo_val ve_int) va_nil))) vl_nil)) rfl)
  (vss_cons (vs_set ndN rfl (by first | exact Or.inl rfl | exact Or.inr rfl) (ve_call V__law_term gd (hr.mono (by decide)) rfl (He.glo_ok inK ns (c.fact 38 rfl)) F__law_term.kp (B__law_term : Binds K _ _ _) (va_cons (vo_mt (pv 2)) (va_cons (vo_rd (pv 3)) va_nil))))
  (vss_cons (vs_set ndN rfl (by first | exact Or.inl rfl | exact Or.inr rfl) (ve_call V__law_mark gd (hr.mono (by decide)) rfl (He.glo_ok inK ns (c.fact 32 rfl)) F__law_mark.kp (B__law_mark : Binds K _ _ _) (va_cons (vo_mt (pv 2)) (va_cons (vo_rd (pv 3)) va_nil))))
  (vss_cons (vs_if (vt_cmp op_gt (nomark _) ov_IB fIB_mono (vo_rd (pv 4)) (vo_val ve_int))
  (vss_one (vs_set ndN rfl (by first | exact Or.inl rfl | exact Or.inr rfl) (ve_call V__law_beside gd (hr.mono (by decide)) rfl (He.glo_ok inK ns (c.fact 39 rfl)) F__law_beside.kp (B__law_beside : Binds K _ _ _) (va_cons (vo_mt (pv 2)) (va_cons (vo_rd (pv 3)) (va_cons (vo_rd (pv 5)) va_nil))))))
  vss_nil)
  (vss_cons (vs_if (VW.vt (vw_and (vt_cmp op_gt (nomark _) ov_IB fIB_mono (vo_rd (pv 3)) (vo_val ve_int)) (vw_and1 (vt_cmp (op_eq.or (op_eqD hu64)) (nomark _) ov_eq fEqG_mono (vo_val (ve_call V__law_draw gd (hr.mono (by decide)) rfl (He.glo_ok inK ns (c.fact 29 rfl)) F__law_draw.kp (B__law_draw : Binds K _ _ _) (va_cons (vo_mt (pv 2)) (va_cons (vo_val ve_int) va_nil)))) (vo_val ve_int)))))
  (vss_one (vs_asg (ve_call V__law_far gd (hr.mono (by decide)) rfl (He.glo_ok inK ns (c.fact 40 rfl)) F__law_far.kp (B__law_far : Binds K _ _ _) (va_cons (vo_mt (pv 2)) (va_cons (vo_rd (pv 3)) va_nil))) (vg_tup rfl (vgs_cons (vg_name ndN rfl (by first | exact Or.inl rfl | exact Or.inr rfl)) (vgs_cons (vg_name ndN rfl (by first | exact Or.inl rfl | exact Or.inr rfl)) vgs_nil)))))
  vss_nil)
  (vss_cons (vs_set ndN rfl (by first | exact Or.inl rfl | exact Or.inr rfl) (ve_call V__law_forced gd (hr.mono (by decide)) rfl (He.glo_ok inK ns (c.fact 41 rfl)) F__law_forced.kp (B__law_forced : Binds K _ _ _) (va_cons (vo_rd (pv 5)) (va_cons (vo_val (ve_var (pv 6))) va_nil))))
  (vss_cons (vs_set ndN rfl (by first | exact Or.inl rfl | exact Or.inr rfl) (ve_call V_forced gd (hr.mono (by decide)) rfl (He.glo_ok inK ns (c.fact 42 rfl)) F_forced.kp (B_forced : Binds K _ _ _) (va_cons (vo_rd (pv 3)) (va_cons (vo_val (ve_var (pv 5))) (va_cons (vo_rd (pv 6)) va_nil)))))
  (vss_cons (vs_if (vt_cmp (op_ne.or (op_neD hu64)) (nomark _) ov_ne fEqG_mono (vo_val (ve_callB (cr_repr gd hu66) cv_repr fRepr_mono rfl (He.free_ok inK ns (c.fact 43 rfl)) (by decide +kernel) (va_cons (vo_rd (pv 8)) va_nil))) (vo_val (ve_callB (cr_repr gd hu66) cv_repr fRepr_mono rfl (He.free_ok inK ns (c.fact 43 rfl)) (by decide +kernel) (va_cons (vo_rd (pv 7)) va_nil))))
  (vss_one (vs_ret ve_bl))
  vss_nil)
  (vss_cons (vs_expr (ve_meth PySem.F.plainAttrs_list PySem.F.slot_list_append (by first | rfl | kernel_rfl) mt_append mv_append fAppend_mono (pv 8) (vl_cons (ve_tup (vl_cons ve_int (vl_cons ve_str (vl_cons ve_int vl_nil)))) vl_nil)))
  (vss_cons (vs_if (vt_cmp (op_ne.or (op_neD hu64)) (nomark _) ov_ne fEqG_mono (vo_val (ve_callB (cr_repr gd hu66) cv_repr fRepr_mono rfl (He.free_ok inK ns (c.fact 43 rfl)) (by decide +kernel) (va_cons (vo_val (ve_callK0 (ks := ["bound", "rule", "gauges"]) V_forced gd (hr.mono (by decide)) rfl (He.glo_ok inK ns (c.fact 42 rfl)) F_forced.kp (b_forced_0_bound_rule_gauges F_forced) (by rfl) (vk_cons (vo_rd (pv 6)) (vk_cons (vo_val (ve_var (pv 5))) (vk_cons (vo_rd (pv 3)) vk_nil))))) va_nil))) (vo_val (ve_callB (cr_repr gd hu66) cv_repr fRepr_mono rfl (He.free_ok inK ns (c.fact 43 rfl)) (by decide +kernel) (va_cons (vo_rd (pv 7)) va_nil))))
  (vss_one (vs_ret ve_bl))
  vss_nil)
  (vss_cons (vs_set ndN rfl (by first | exact Or.inl rfl | exact Or.inr rfl) (ve_call V__law_mark gd (hr.mono (by decide)) rfl (He.glo_ok inK ns (c.fact 32 rfl)) F__law_mark.kp (B__law_mark : Binds K _ _ _) (va_cons (vo_mt (pv 2)) (va_cons (vo_rd (pv 3)) va_nil))))
  (vss_cons (vs_set ndN rfl (by first | exact Or.inl rfl | exact Or.inr rfl) (ve_tup (vl_cons ve_str (vl_cons (ve_var (pv 6)) (vl_cons (ve_var (pv 6)) vl_nil)))))
  (vss_cons (vs_set ndN rfl (by first | exact Or.inl rfl | exact Or.inr rfl) (ve_call V__law_contrary gd (hr.mono (by decide)) rfl (He.glo_ok inK ns (c.fact 44 rfl)) F__law_contrary.kp (B__law_contrary : Binds K _ _ _) (va_cons (vo_rd (pv 6)) va_nil)))
  (vss_cons (vs_if (vt_cmp (op_ne.or (op_neD hu64)) (nomark _) ov_ne fEqG_mono (vo_val (ve_callB (cr_repr gd hu66) cv_repr fRepr_mono rfl (He.free_ok inK ns (c.fact 43 rfl)) (by decide +kernel) (va_cons (vo_val (ve_lst (vl_cons (ve_call V_forced gd (hr.mono (by decide)) rfl (He.glo_ok inK ns (c.fact 42 rfl)) F_forced.kp (B_forced : Binds K _ _ _) (va_cons (vo_rd (pv 3)) (va_cons (vo_val (ve_var (pv 9))) (va_cons (vo_rd (pv 10)) va_nil)))) (vl_cons (ve_call V_forced gd (hr.mono (by decide)) rfl (He.glo_ok inK ns (c.fact 42 rfl)) F_forced.kp (B_forced : Binds K _ _ _) (va_cons (vo_rd (pv 3)) (va_cons (vo_val (ve_var (pv 9))) (va_cons (vo_rd (pv 6)) va_nil)))) vl_nil)))) va_nil))) (vo_val (ve_callB (cr_repr gd hu66) cv_repr fRepr_mono rfl (He.free_ok inK ns (c.fact 43 rfl)) (by decide +kernel) (va_cons (vo_val (ve_lst (vl_cons (ve_lst (vl_cons (ve_var (pv 6)) vl_nil)) (vl_cons (ve_lst vl_nil) vl_nil)))) va_nil))))
  (vss_one (vs_ret ve_bl))
  vss_nil)
  (vss_one (vs_if (VW.vt (vw_and (vt_cmp (op_eq.or (op_eqD hu64)) (nomark _) ov_eq fEqG_mono (vo_val (ve_ix (vo_rd (pv 5)) (vo_val ve_int) (by intro _ _; rfl))) (vo_val ve_str)) (vw_and1 (vt_cmp (op_ne.or (op_neD hu64)) (nomark _) ov_ne fEqG_mono (vo_rd (pv 7)) (vo_val (ve_lst vl_nil))))))
  (vss_one (vs_ret ve_bl))
  vss_nil))))))))))))))))))
  (vss_one (vs_ret ve_bl)))
end
def loose0 : List Str := ["GaugeError", "InvalidCount", "InvalidBound", "InvalidRule", "MOST_GAUGES", "BOTH_WAYS", "is_integer", "fits_way", "fits_gauge", "fits_bound", "fits_two_gauges", "fits_rule", "need_gauges", "need_bound", "need_rule", "side_of", "level_of", "bound_at", "links_of", "gates_of", "forced_by", "forced", "_law_bag", "_law_draw", "_law_number", "_law_way", "_law_mark", "_law_two", "_law_term", "_law_contrary"]
def loose1 : List Str := ["_law_oppose", "_law_forced", "_law_beside", "_law_far"]
def looseA : List Str := loose0 ++ loose1
abbrev R0 : PySem.W.OpenRow := PySem.W.OpenLaw.row PySem.Challenge.rw_middlegauges_k09_forced_bounds
abbrev hkx : PySem.W.Hook := hookL 3 fa cs fn
def obx (s : PySem.W.SharedT) : AlX := obsL 3 fa cs fn (HandSHeadRun.getT s)
theorem obx_eq (s : PySem.W.SharedT) : obx s = hkx.obs s.abs := obsL_eq (HandSHeadRun.getT_eq s)
theorem ran (w : World) : HandSHeadRun.RunEq R0 (PySem.W.view R0.prog [38]) hkx obx 60000 looseA w := by
  intro os
  kernel_rfl
theorem law_facts {P : Program} {w : World} {K : PySem.W.Frag} {h : Heap} {mg : Str → Option Value} {f : Addr} (inK : K.In h) (ns : h.Ns mainGlobals mg) (hf : mg ("law" : Str) = some (.ref f)) (c : SaysX fa cs fn K) :
    ∃ fd : FuncData, (∀ (s : Shared) (v : Value), BindsTo s fd ⟨[v], []⟩ [("script", v)]) ∧ ∀ base : Heap, K.In base → base.Ns mainGlobals mg → FnV P w K mg base 7 f fd ["script"] d_law := by
  obtain ⟨fd, F⟩ := c.fun_ 28 (d := e_law) rfl
  have e := hf.symm.trans (He.glo_ok inK ns (c.fact 45 (f := .glo "law") rfl))
  cases e
  have b := FunD.bindsA (ps := ["script"]) F fun _ _ _ _ _ _ us hl => match us, hl with | [_], _ => rfl
  refine ⟨fd, fun s v => b s [v] rfl, fun base _ _ => ?_⟩
  obtain ⟨fd2, F2, V⟩ := v_law (P := P) (w := w) (base := base) inK ns c
  have e2 : fd2 = fd := by
    obtain ⟨_, _, _, _, _, _, _, _, _, _, _, l1, _⟩ := F.ex
    obtain ⟨_, _, _, _, _, _, _, _, _, _, _, l2, _⟩ := F2.ex
    have l3 := l2.symm.trans l1
    cases l3
    rfl
  subst e2
  exact V
def claim : Prop := ∀ ns : List Int, ns.length ≤ 63 → d_law [.bo (ns.map D.int)] (fun sv _ => sv = .sh (.bl true)) fun _ _ _ => False

local macro_rules | `(tactic| bv_omega) => `(tactic| ((try simp only [vsSeq, fnRun]); try simp only [startV, vLc, vtYes, wipeE, vsNext, vsRet, vsRetN, vsDrop, vsAsg, vsIf, vsCont, vsBreak, vsPar, vsPar3, vsSetIx, vsRaise, vTest, vTru, D.tru, vNot, vAndT, vOrT, vBin, vChain, vUn, vCB, vOp, vOps, vC, vVar, vMove, vTup, vLst, vVals, vSl, vPo, vIfE, vAndE, vOrE, vNotE, vBoolK, vRd, slotOf, vgName, vgTup, vgCons, vgNil, AV.get, getAll, SV.fz, SV.isOwn, SV.items, SV.with, vCall, vCallK, sel, List.filterMap_cons, List.filterMap_nil, argAll, AV.arg, argB, argM, AV.mi, AV.bi, vMeth, vsFor, srcV, srcN, srcR1, srcR2, backK, backL,
  fSl, fAdd, fSub, fMulI, fDiv, fMod, fPow, fII, fI0, fIB, fLt, fLe, fGt, fGe, fEq, fNe, fEqG, fIx, fNeg, fInt1, fLen, fMax, fMin, fTuple, fList, fRev, fRevV, fIsi, D.isa, D.noOb, fRepr, fIs, fIsNot, fIsG, D.isNon,
  sne_bound_apart, sne_bound_sum, sne_bound_either, sne_bound_least, sne_bound_most, sne_apart_bound, sne_apart_sum, sne_apart_either, sne_apart_least, sne_apart_most, sne_sum_bound, sne_sum_apart, sne_sum_either, sne_sum_least, sne_sum_most, sne_either_bound, sne_either_apart, sne_either_sum, sne_either_least, sne_either_most, sne_least_bound, sne_least_apart, sne_least_sum, sne_least_either, sne_least_most, sne_most_bound, sne_most_apart, sne_most_sum, sne_most_either, sne_most_least, wy_least, wy_most, atI_c0, atI_c1, atI_c2, atI_c3, atI_c4, atI_c5, ixN_30, ixN_31, ixN_32,
  List.map_cons, List.map_nil, List.length_cons, List.length_nil, List.replicate, List.cons_append, List.nil_append, List.append_nil, List.getElem?_cons_zero, List.getElem?_cons_succ, Option.getD_some, Option.map_some, List.set_cons_zero, List.set_cons_succ, Nat.reduceAdd, Nat.reduceSub, List.isEmpty_cons, List.isEmpty_nil,
  Int.cast_ofNat_Int, Int.reducePow, Int.reduceMul, Int.reduceSub, Int.reduceAdd, Int.reduceNeg, Int.reduceToNat, Int.reduceMod, Int.reduceDiv, Int.reduceEq, Int.reduceNe, Int.reduceLT, Int.reduceLE, Nat.reduceLeDiff, Nat.reduceMul,
  true_and, and_true, or_self, true_or, or_true, false_or, or_false, decide_eq_true_eq, id_eq, if_true, if_false, reduceCtorEq, Bool.false_eq_true, Bool.not_true, Bool.not_false, Bool.not_eq_true', decide_true, decide_false, decide_eq_false_iff_not, ite_true, ite_false, Bool.not_eq_eq_eq_not, not_true_eq_false, not_false_eq_true]))
local macro_rules | `(tactic| simp_wf) => `(tactic| simp -implicitDefEqProofs only [↓ub_is_integer_0, ↓ud_is_integer, ↓ub_fits_way_0, ↓ud_fits_way, ↓ub_fits_gauge_0, ↓ud_fits_gauge, ↓ub_fits_bound_0, ↓ub_fits_bound_1, ↓ud_fits_bound, ↓ub_fits_two_gauges_0, ↓ub_fits_two_gauges_1, ↓ud_fits_two_gauges, ↓ub_fits_rule_0, ↓ub_fits_rule_1, ↓ub_fits_rule_2, ↓ub_fits_rule_3, ↓ub_fits_rule_4, ↓ub_fits_rule_5, ↓ub_fits_rule_6, ↓ud_fits_rule, ↓ub_need_gauges_0, ↓ud_need_gauges, ↓ub_need_bound_0, ↓ud_need_bound, ↓ub_need_rule_0, ↓ud_need_rule, ↓ub_side_of_0, ↓ud_side_of, ↓ub_level_of_0, ↓ub_level_of_1, ↓ud_level_of, ↓ub_bound_at_0, ↓ub_bound_at_1, ↓ud_bound_at, ↓ub_links_of_0, ↓ub_links_of_1, ↓ub_links_of_2, ↓ub_links_of_3, ↓ub_links_of_4, ↓ub_links_of_5, ↓ud_links_of, ↓ub_gates_of_0, ↓ub_gates_of_1, ↓ub_gates_of_2, ↓ub_gates_of_3, ↓ud_gates_of, ↓ub_forced_by_0, ↓ub_forced_by_1, ↓ub_forced_by_2, ↓ub_forced_by_3, ↓ub_forced_by_4, ↓ub_forced_by_5, ↓ub_forced_by_6, ↓ub_forced_by_7, ↓ub_forced_by_8, ↓ud_forced_by, ↓ub_forced_0, ↓ub_forced_1, ↓ub_forced_2, ↓ub_forced_3, ↓ud_forced, ↓ub__law_bag_0, ↓ud__law_bag, ↓ub__law_draw_0, ↓ub__law_draw_1, ↓ub__law_draw_2, ↓ub__law_draw_3, ↓ub__law_draw_4, ↓ub__law_draw_5, ↓ub__law_draw_6, ↓ub__law_draw_7, ↓ud__law_draw, ↓ub__law_number_0, ↓ub__law_number_1, ↓ub__law_number_2, ↓ub__law_number_3, ↓ud__law_number, ↓ub__law_way_0, ↓ud__law_way, ↓ub__law_mark_0, ↓ud__law_mark, ↓ub__law_two_0, ↓ub__law_two_1, ↓ud__law_two, ↓ub__law_term_0, ↓ub__law_term_1, ↓ub__law_term_2, ↓ub__law_term_3, ↓ub__law_term_4, ↓ub__law_term_5, ↓ub__law_term_6, ↓ud__law_term, ↓ub__law_contrary_0, ↓ub__law_contrary_1, ↓ud__law_contrary, ↓ub__law_oppose_0, ↓ub__law_oppose_1, ↓ub__law_oppose_2, ↓ud__law_oppose, ↓ub__law_forced_0, ↓ub__law_forced_1, ↓ub__law_forced_2, ↓ub__law_forced_3, ↓ub__law_forced_4, ↓ub__law_forced_5, ↓ub__law_forced_6, ↓ud__law_forced, ↓ub__law_beside_0, ↓ub__law_beside_1, ↓ub__law_beside_2, ↓ub__law_beside_3, ↓ub__law_beside_4, ↓ud__law_beside, ↓ub__law_far_0, ↓ub__law_far_1, ↓ub__law_far_2, ↓ub__law_far_3, ↓ub__law_far_4, ↓ub__law_far_5, ↓ud__law_far, ↓ub_law_0, ↓ub_law_1, ↓ub_law_2, ↓ub_law_3, ↓ub_law_4, ↓ub_law_5, ↓ub_law_6, ↓ub_law_7, ↓ub_law_8, ↓ub_law_9, ↓ub_law_10, ↓ub_law_11, ↓ub_law_12, ↓ub_law_13, ↓ub_law_14, ↓ub_law_15, ↓ub_law_16, ↓ud_law,
  ↓srcR3_K, ↓srcR4_K, ↓ints3_K, ↓fIn_lst, ↓fIn_tup, ↓fNotIn_lst, ↓fNotIn_tup, ↓fSub_K, ↓fXor_K, ↓fAnd_K, ↓fMulI_K, ↓fMulW_K, ↓fDiv_K, ↓fMod_K, ↓fPow_K, ↓fLt_K, ↓fLe_K, ↓fGt_K, ↓fGe_K, ↓fEq_K, ↓fNe_K, ↓fEq_str, ↓fEq_bl, ↓fEq_tup, ↓fEq_lst, ↓fNe_str, ↓fNe_bl, ↓fNe_tup, ↓fNe_lst, ↓fIs_non, ↓fIsNot_non, ↓vC_K, ↓dcK_dc, ↓keyK_is, ↓kyTup_K, ↓vDNew_K, ↓vDGet1_K, ↓vDGet2_K, ↓vsDSet_K, ↓moveK_dc, ↓fzK_dc, ↓vVar_K, ↓vMove_K, ↓varK_sh, ↓varK_ow, ↓moveK_sh, ↓moveK_ow, ↓srcK_lst, ↓srcK_tup, ↓srcK_ow, ↓srcK_bo, ↓truK_bl, ↓truK_int, ↓truK_tup, ↓truK_lst, ↓truK_non, ↓truK_str, ↓bl_K, ↓vOp_val, ↓vOp_rd, ↓vOp_mt, ↓vOps_nil, ↓vOps_cons, ↓vVals_nil, ↓vVals_cons, ↓vUn_K, ↓vBin_K, ↓vCB_K, ↓getAll_nil, ↓getAll_cons, ↓get_v, ↓get_b, ↓vTup_K, ↓vLst_K, ↓vPo_no, ↓vPo_at, ↓vSl_K, ↓vTest_K, ↓vTru_K, ↓vNot_K, ↓andK_true, ↓andK_false, ↓orK_true, ↓orK_false, ↓vAndT_K, ↓vOrT_K, ↓andE_true, ↓andE_false, ↓orE_true, ↓orE_false, ↓ifE_true, ↓ifE_false, ↓vAndE_K, ↓vOrE_K, ↓vNotE_K, ↓vIfE_K, ↓chainK_true, ↓chainK_false, ↓vChain_K, ↓vgName_K, ↓vgNil_K, ↓vgCons_K, ↓vgTup_K, ↓vgLst_sh, ↓vgLst_ow, ↓ifS_true, ↓ifS_false, ↓ifS_not, ↓vsNext_K, ↓vsSeq_K, ↓vsRet_K, ↓vsRetN_K, ↓vsDrop_K, ↓vsAsg_K, ↓vsIf_K', ↓vsCont_K, ↓vsBreak_K, ↓vsRaise_K, ↓par2_K, ↓vsPar_K, ↓vsPar2_K, ↓par3_K, ↓vsPar3_K, ↓ownK_ow, ↓ownK_mu, ↓methK_ow, ↓methK_mu, ↓vMeth_K, ↓fAppend_K, ↓fExtend_K, ↓fPopAt_K, ↓fInsert_K, ↓putK_ow, ↓putK_mu, ↓vsSetIx_K, ↓srcV_K, ↓srcN_K, ↓srcE_K, ↓srcR1_K, ↓ints2_K, ↓srcR2_K, ↓vsFor_K, ↓wipeK_nil, ↓wipeK_cons, ↓vLc_K, ↓vSortSet_sh, ↓fSortSet_ints, ↓vSortSetW_sh, ↓vSortSetT_sh, ↓fSortSetW_ints, ↓vsTry_K, ↓vtYes_K, ↓vCall_K, ↓argAll_nil, ↓argAll_cons, ↓arg_v, ↓arg_b, ↓arg_m, ↓argB_sh, ↓argB_ow, ↓argB_mu, ↓argB_bo, ↓argM_ow, ↓argM_mu, ↓withK_mu, ↓withK_ow, ↓muK_mu, ↓backN_nil, ↓backN_m, ↓backN_v, ↓backN_b, ↓backK_K, ↓vCallK_K, ↓vCallO_K, ↓owK_ow, ↓vRep_K, ↓fIx_tup, ↓fIx_lst, ↓intK_int, ↓seqK_lst, ↓seqK_tup, ↓lstK_lst, ↓optK_some, ↓fzK_sh, ↓fzK_ow, ↓fzK_mu, ↓fzK_bo, ↓optS_0, ↓optS_1, ↓optS_2, ↓optS_3, ↓optS_4, ↓optS_5, ↓optS_6, ↓optS_7, ↓optS_8, ↓optS_9, ↓optS_10, ↓optS_11, ↓optS_12, ↓optS_13, ↓optS_14, ↓optS_15, ↓optS_16, ↓optS_17, ↓optS_18, ↓optS_19, ↓optS_20, ↓optS_21, ↓optS_22, ↓optS_23, ↓optS_24, ↓optS_25, ↓optS_26, ↓optS_27, ↓optS_28, ↓optS_29, ↓setK_0, ↓setK_1, ↓setK_2, ↓setK_3, ↓setK_4, ↓setK_5, ↓setK_6, ↓setK_7, ↓setK_8, ↓setK_9, ↓setK_10, ↓setK_11, ↓setK_12, ↓setK_13, ↓setK_14, ↓setK_15, ↓setK_16, ↓setK_17, ↓setK_18, ↓setK_19, ↓setK_20, ↓setK_21, ↓setK_22, ↓setK_23, ↓setK_24, ↓setK_25, ↓setK_26, ↓setK_27, ↓setK_28, ↓setK_29,
  ↓fSl, ↓fDivmod, ↓fAdd, ↓fLtD, ↓fNeg, ↓fInt1, ↓fLen, ↓fMax, ↓fMin, ↓fTuple, ↓fList, ↓fRev, ↓fRevV, ↓fIsi, ↓fRepr,
  fz_sh, fz_ow, fz_mu, fz_bo, startV, List.map_cons, List.map_nil, List.length_cons, List.length_nil, List.replicate, List.cons_append, List.nil_append, List.append_nil, sel, List.filterMap_cons, List.filterMap_nil, List.getElem?_cons_zero, List.getElem?_cons_succ, Nat.reduceAdd, Nat.reduceSub, List.isEmpty_cons, List.isEmpty_nil, D.isa, D.noOb, D.isNon, sne_bound_apart, sne_bound_sum, sne_bound_either, sne_bound_least, sne_bound_most, sne_apart_bound, sne_apart_sum, sne_apart_either, sne_apart_least, sne_apart_most, sne_sum_bound, sne_sum_apart, sne_sum_either, sne_sum_least, sne_sum_most, sne_either_bound, sne_either_apart, sne_either_sum, sne_either_least, sne_either_most, sne_least_bound, sne_least_apart, sne_least_sum, sne_least_either, sne_least_most, sne_most_bound, sne_most_apart, sne_most_sum, sne_most_either, sne_most_least, wy_least, wy_most, atI_c0, atI_c1, atI_c2, atI_c3, atI_c4, atI_c5, ixN_30, ixN_31, ixN_32, Int.cast_ofNat_Int, Int.reducePow, Int.reduceMul, Int.reduceSub, Int.reduceAdd, Int.reduceNeg, Int.reduceToNat, Int.reduceMod, Int.reduceDiv, Int.reduceEq, Int.reduceNe, Int.reduceLT, Int.reduceLE, Nat.reduceLeDiff, Nat.reduceMul, true_and, and_true, or_self, true_or, or_true, false_or, or_false, id_eq, reduceCtorEq, Bool.not_true, Bool.not_false, decide_true, decide_false, eq_self_iff_true, not_true_eq_false, not_false_eq_true])


def D.isInt : D → Bool
  | .int _ => true
  | _ => false
def D.isWay : D → Bool
  | .str x => decide (x = "least") || decide (x = "most")
  | _ => false
def D.isGauge (g : Int) : D → Bool
  | .int i => decide (0 ≤ i) && decide (i < g)
  | _ => false
def D.isBnd (g : Int) : D → Bool
  | .tup [a, w, n] => D.isGauge g a && (D.isWay w && D.isInt n)
  | _ => false
def D.num : D → Int
  | .int i => i
  | _ => 0
def D.two (g : Int) (a b : D) : Bool := D.isGauge g a && (D.isGauge g b && decide (D.num a ≠ D.num b))
def D.isRule (g : Int) : D → Bool
  | .tup (.str k :: r) =>
    if k = "bound" then (match r with
      | [b] => D.isBnd g b
      | _ => false)
    else if k = "apart" then (match r with
      | [a, b, n] => D.two g a b && D.isInt n
      | _ => false)
    else if k = "sum" then (match r with
      | [a, b, w, n] => D.two g a b && (decide (D.num a ≤ D.num b) && (D.isWay w && D.isInt n))
      | _ => false)
    else if k = "either" then (match r with
      | [a, b] => D.isBnd g a && D.isBnd g b
      | _ => false)
    else false
  | _ => false
theorem plain_noOb {d : D} (h : d.plain = true) : d.noOb = true := by cases d <;> first | rfl | cases h
theorem eqv_str {a b : Str} : D.eqv (.str a) (.str b) = decide (a = b) := by
  unfold D.eqv D.py
  simp only [PyData.eqv]
  exact Bool.beq_eq_decide_eq a b
theorem ok_str {x : Str} (h : PyData.strOk x = true) : (D.str x).ok := ⟨h, by unfold D.depth D.py; simp [PyData.depth]⟩
theorem p_is_integer {d : D} {Q : QV} {W : WxV} (hd : d.noOb = true) (h : ∀ t, Q (.sh (.bl (D.isInt d))) t) : d_is_integer [.sh d] Q W := by
  unfold d_is_integer b_is_integer_0
  bv_omega
  cases d with
  | ob a => cases hd
  | rc _ _ _ => cases hd
  | int i => bv_omega; exact h _
  | bl b => bv_omega; exact h _
  | non => bv_omega; exact h _
  | str x => bv_omega; exact h _
  | tup ds => bv_omega; exact h _
  | lst ds => bv_omega; exact h _
theorem ways_ok : (D.tup [D.str (Str.ofString "least"), D.str (Str.ofString "most")]).ok := ⟨by decide +kernel, by decide +kernel⟩
theorem p_fits_way {d : D} {Q : QV} {W : WxV} (hd : d.plain = true) (h : ∀ t, Q (.sh (.bl (D.isWay d))) t) : d_fits_way [.sh d] Q W := by
  unfold d_fits_way b_fits_way_0
  bv_omega
  cases d with
  | ob a => cases hd
  | rc _ _ _ => cases hd
  | int i => bv_omega; exact h _
  | bl b => bv_omega; exact h _
  | non => bv_omega; exact h _
  | str x =>
    bv_omega
    refine ⟨ok_str hd, ways_ok, ?_⟩
    have e : (List.any [D.str (Str.ofString "least"), D.str (Str.ofString "most")] fun z => D.eqv z (D.str x)) = D.isWay (.str x) := by
      simp only [List.any_cons, List.any_nil, eqv_str, D.isWay, Bool.or_false]
      congr 1 <;> (rw [decide_eq_decide]; exact eq_comm)
    rw [e]
    exact h _
  | tup ds => bv_omega; exact h _
  | lst ds => bv_omega; exact h _
theorem p_fits_gauge {g : Int} {d : D} {Q : QV} {W : WxV} (hd : d.noOb = true) (h : ∀ t, Q (.sh (.bl (D.isGauge g d))) t) : d_fits_gauge [.sh (.int g), .sh d] Q W := by
  unfold d_fits_gauge b_fits_gauge_0
  bv_omega
  refine ⟨rfl, p_is_integer hd fun t => ?_⟩
  bv_omega
  cases d with
  | ob a => cases hd
  | rc _ _ _ => cases hd
  | int i =>
    simp only [D.isInt, if_true]
    bv_omega
    have h' := h
    simp only [D.isGauge] at h'
    split
    · rename_i h0
      simp only [h0, decide_true, Bool.true_and] at h'
      exact h' _
    · rename_i h0
      simp only [h0, decide_false, Bool.false_and] at h'
      exact h' _
  | bl b => exact h _
  | non => exact h _
  | str x => exact h _
  | tup ds => exact h _
  | lst ds => exact h _
theorem plain_cons {a : D} {t : List D} (h : D.plainL (a :: t) = true) : a.plain = true ∧ D.plainL t = true := by
  have h' : (a.plain && D.plainL t) = true := h
  rwa [Bool.and_eq_true] at h'
theorem p_fits_bound {g : Int} {d : D} {Q : QV} {W : WxV} (hd : d.plain = true) (h : ∀ t, Q (.sh (.bl (D.isBnd g d))) t) : d_fits_bound [.sh (.int g), .sh d] Q W := by
  unfold d_fits_bound b_fits_bound_1
  bv_omega
  cases d with
  | ob a => cases hd
  | rc _ _ _ => cases hd
  | int i => bv_omega; exact h _
  | bl b => bv_omega; exact h _
  | non => bv_omega; exact h _
  | str x => bv_omega; exact h _
  | lst ds => bv_omega; exact h _
  | tup ds =>
    have hd' : D.plainL ds = true := hd
    rcases ds with _ | ⟨a, _ | ⟨b, _ | ⟨n, _ | ⟨e, t⟩⟩⟩⟩
    · bv_omega; exact h _
    · bv_omega; exact h _
    · bv_omega; exact h _
    · obtain ⟨p1, hd'⟩ := plain_cons hd'
      obtain ⟨p2, hd'⟩ := plain_cons hd'
      obtain ⟨p3, _⟩ := plain_cons hd'
      bv_omega
      unfold b_fits_bound_0
      bv_omega
      refine ⟨rfl, p_fits_gauge (plain_noOb p1) fun t => ?_⟩
      bv_omega
      have h' := h
      simp only [D.isBnd] at h'
      split
      · rename_i h0
        simp only [h0, Bool.true_and] at h'
        refine ⟨rfl, p_fits_way p2 fun t => ?_⟩
        bv_omega
        split
        · rename_i h1
          simp only [h1, Bool.true_and] at h'
          exact ⟨rfl, p_is_integer (plain_noOb p3) fun t => h' _⟩
        · rename_i h1
          have h1 : D.isWay b = false := by simpa using h1
          simp only [h1, Bool.false_and] at h'
          exact h' _
      · rename_i h0
        have h0 : D.isGauge g a = false := by simpa using h0
        simp only [h0, Bool.false_and] at h'
        exact h' _
    · bv_omega
      have e0 : ((t.length + 1 + 1 + 1 + 1 : Nat) : Int) ≠ 3 := by omega
      simp only [e0, decide_false, not_false_eq_true, Bool.not_false, if_true]
      exact h _

def D.isNum : D → Bool
  | .int _ => true
  | .non => true
  | _ => false
def D.isPart (g : Int) : D → Bool
  | .tup ds => decide ((ds.length : Int) = g) && ds.all D.isNum
  | _ => false
def D.isRdg (g : Int) : D → Bool
  | .tup ds => decide ((ds.length : Int) = g) && ds.all D.isInt
  | _ => false
theorem gauge_int {g : Int} {d : D} (h : D.isGauge g d = true) : ∃ i, d = .int i ∧ 0 ≤ i ∧ i < g := by
  cases d with
  | int i =>
    simp only [D.isGauge, Bool.and_eq_true, decide_eq_true_eq] at h
    exact ⟨i, rfl, h.1, h.2⟩
  | _ => cases h
theorem p_fits_two_gauges {g : Int} {k a b : D} {r : List D} {Q : QV} {W : WxV} (ha : a.noOb = true) (hb : b.noOb = true) (h : ∀ t, Q (.sh (.bl (D.two g a b))) t) : d_fits_two_gauges [.sh (.int g), .sh (.tup (k :: a :: b :: r))] Q W := by
  unfold d_fits_two_gauges b_fits_two_gauges_1
  bv_omega
  refine ⟨rfl, p_fits_gauge ha fun t => ?_⟩
  bv_omega
  have h' := h
  simp only [D.two] at h'
  by_cases h0 : D.isGauge g a = true
  · simp only [h0, Bool.true_and] at h'
    simp only [h0]
    bv_omega
    refine ⟨rfl, p_fits_gauge hb fun t => ?_⟩
    bv_omega
    by_cases h1 : D.isGauge g b = true
    · simp only [h1, Bool.true_and] at h'
      obtain ⟨i, rfl, _, _⟩ := gauge_int h0
      obtain ⟨j, rfl, _, _⟩ := gauge_int h1
      simp only [h1]
      bv_omega
      unfold b_fits_two_gauges_0
      bv_omega
      simp only [D.num] at h'
      rw [show (!decide (i = j)) = decide (i ≠ j) by rw [decide_not]]
      exact h' _
    · have h1 : D.isGauge g b = false := by simpa using h1
      simp only [h1, Bool.false_and] at h'
      simp only [h1]
      bv_omega
      exact h' _
  · have h0 : D.isGauge g a = false := by simpa using h0
    simp only [h0, Bool.false_and] at h'
    simp only [h0]
    bv_omega
    exact h' _
theorem eqv_unit {ds : List D} : D.eqv (.tup ds) (.tup []) = ds.isEmpty := by
  cases ds <;> (unfold D.eqv; simp [D.py, D.pyL, PyData.eqv, PyData.eqvAll])
theorem unit_ok : (D.tup []).ok := ⟨by decide +kernel, by decide +kernel⟩

theorem bnot {b : Bool} (h : ¬ b = true) : b = false := by simpa using h
theorem p_fits_rule {g : Int} {d : D} {Q : QV} {W : WxV} (hd : d.ok) (h : ∀ t, Q (.sh (.bl (D.isRule g d))) t) : d_fits_rule [.sh (.int g), .sh d] Q W := by
  obtain ⟨hp, hdep⟩ := hd
  unfold d_fits_rule b_fits_rule_6
  cases d with
  | ob a => cases hp
  | rc _ _ _ => cases hp
  | int i => bv_omega; exact h _
  | bl b => bv_omega; exact h _
  | non => bv_omega; exact h _
  | str x => bv_omega; exact h _
  | lst ds => bv_omega; exact h _
  | tup ds =>
    bv_omega
    refine ⟨⟨hp, hdep⟩, unit_ok, ?_⟩
    rw [eqv_unit]
    have hp' : D.plainL ds = true := hp
    cases ds with
    | nil => bv_omega; exact h _
    | cons k r =>
      obtain ⟨pk, pr⟩ := plain_cons hp'
      bv_omega
      cases k with
      | ob a => cases pk
      | rc _ _ _ => cases pk
      | int i => bv_omega; exact h _
      | bl b => bv_omega; exact h _
      | non => bv_omega; exact h _
      | lst ds => bv_omega; exact h _
      | tup ds => bv_omega; exact h _
      | str k =>
        bv_omega
        unfold b_fits_rule_5
        bv_omega
        unfold b_fits_rule_4
        bv_omega
        have h' := h
        simp only [D.isRule] at h'
        by_cases e1 : k = Str.ofString "bound"
        · simp only [e1, if_true] at h'
          simp only [e1]
          bv_omega
          rcases r with _ | ⟨a, _ | ⟨b, t⟩⟩
          · bv_omega; exact h' _
          · obtain ⟨p1, _⟩ := plain_cons pr
            bv_omega
            exact ⟨rfl, p_fits_bound p1 fun t => h' _⟩
          · have e0 : ((t.length + 1 + 1 + 1 : Nat) : Int) ≠ 2 := by omega
            bv_omega
            simp only [e0]
            bv_omega
            exact h' _
        · simp only [e1, if_false] at h'
          simp only [e1]
          bv_omega
          unfold b_fits_rule_3
          bv_omega
          by_cases e2 : k = Str.ofString "apart"
          · simp only [e2, if_true] at h'
            simp only [e2]
            bv_omega
            rcases r with _ | ⟨a, _ | ⟨b, _ | ⟨n, _ | ⟨e, t⟩⟩⟩⟩
            · bv_omega; exact h' _
            · bv_omega; exact h' _
            · bv_omega; exact h' _
            · obtain ⟨p1, pr⟩ := plain_cons pr
              obtain ⟨p2, pr⟩ := plain_cons pr
              obtain ⟨p3, _⟩ := plain_cons pr
              bv_omega
              refine ⟨rfl, p_fits_two_gauges (plain_noOb p1) (plain_noOb p2) fun t => ?_⟩
              bv_omega
              by_cases e5 : D.two g a b = true
              · simp only [e5, Bool.true_and] at h'
                simp only [e5]
                bv_omega
                exact ⟨rfl, p_is_integer (plain_noOb p3) fun t => h' _⟩
              · have e5 := bnot e5
                simp only [e5, Bool.false_and] at h'
                simp only [e5]
                bv_omega
                exact h' _
            · have e0 : ((t.length + 1 + 1 + 1 + 1 + 1 : Nat) : Int) ≠ 4 := by omega
              bv_omega
              simp only [e0]
              bv_omega
              exact h' _
          · simp only [e2, if_false] at h'
            simp only [e2]
            bv_omega
            unfold b_fits_rule_2
            bv_omega
            by_cases e3 : k = Str.ofString "sum"
            · simp only [e3, if_true] at h'
              simp only [e3]
              bv_omega
              rcases r with _ | ⟨a, _ | ⟨b, _ | ⟨w, _ | ⟨n, _ | ⟨e, t⟩⟩⟩⟩⟩
              · bv_omega; exact h' _
              · bv_omega; exact h' _
              · bv_omega; exact h' _
              · bv_omega; exact h' _
              · obtain ⟨p1, pr⟩ := plain_cons pr
                obtain ⟨p2, pr⟩ := plain_cons pr
                obtain ⟨p3, pr⟩ := plain_cons pr
                obtain ⟨p4, _⟩ := plain_cons pr
                bv_omega
                refine ⟨rfl, p_fits_two_gauges (plain_noOb p1) (plain_noOb p2) fun t => ?_⟩
                bv_omega
                by_cases e5 : D.two g a b = true
                · have e6 := e5
                  simp only [D.two, Bool.and_eq_true] at e6
                  obtain ⟨i, rfl, _, _⟩ := gauge_int e6.1
                  obtain ⟨j, rfl, _, _⟩ := gauge_int e6.2.1
                  simp only [e5, Bool.true_and, D.num] at h'
                  simp only [e5]
                  bv_omega
                  by_cases e7 : i ≤ j
                  · have e8 : ¬ j < i := by omega
                    simp only [e7, decide_true, Bool.true_and] at h'
                    simp only [e8]
                    bv_omega
                    unfold b_fits_rule_0
                    bv_omega
                    refine ⟨rfl, p_fits_way p3 fun t => ?_⟩
                    bv_omega
                    by_cases e9 : D.isWay w = true
                    · simp only [e9, Bool.true_and] at h'
                      simp only [e9]
                      bv_omega
                      exact ⟨rfl, p_is_integer (plain_noOb p4) fun t => h' _⟩
                    · have e9 := bnot e9
                      simp only [e9, Bool.false_and] at h'
                      simp only [e9]
                      bv_omega
                      exact h' _
                  · have e8 : j < i := by omega
                    simp only [e7, decide_false, Bool.false_and] at h'
                    simp only [e8]
                    bv_omega
                    exact h' _
                · have e5 := bnot e5
                  simp only [e5, Bool.false_and] at h'
                  simp only [e5]
                  bv_omega
                  exact h' _
              · have e0 : ((t.length + 1 + 1 + 1 + 1 + 1 + 1 : Nat) : Int) ≠ 5 := by omega
                bv_omega
                simp only [e0]
                bv_omega
                exact h' _
            · simp only [e3, if_false] at h'
              simp only [e3]
              bv_omega
              unfold b_fits_rule_1
              bv_omega
              by_cases e4 : k = Str.ofString "either"
              · simp only [e4, if_true] at h'
                simp only [e4]
                bv_omega
                rcases r with _ | ⟨a, _ | ⟨b, _ | ⟨e, t⟩⟩⟩
                · bv_omega; exact h' _
                · bv_omega; exact h' _
                · obtain ⟨p1, pr⟩ := plain_cons pr
                  obtain ⟨p2, _⟩ := plain_cons pr
                  bv_omega
                  refine ⟨rfl, p_fits_bound p1 fun t => ?_⟩
                  bv_omega
                  by_cases e5 : D.isBnd g a = true
                  · simp only [e5, Bool.true_and] at h'
                    simp only [e5]
                    bv_omega
                    exact ⟨rfl, p_fits_bound p2 fun t => h' _⟩
                  · have e5 := bnot e5
                    simp only [e5, Bool.false_and] at h'
                    simp only [e5]
                    bv_omega
                    exact h' _
                · have e0 : ((t.length + 1 + 1 + 1 + 1 : Nat) : Int) ≠ 3 := by omega
                  bv_omega
                  simp only [e0]
                  bv_omega
                  exact h' _
              · simp only [e4, if_false] at h'
                simp only [e4]
                bv_omega
                exact h' _

theorem p_need_gauges {g : Int} {Q : QV} {W : WxV} (h1 : 1 ≤ g) (h5 : g ≤ 5) (h : ∀ t, Q (.sh .non) t) : d_need_gauges [.sh (.int g)] Q W := by
  unfold d_need_gauges b_need_gauges_0
  bv_omega
  refine ⟨rfl, p_is_integer rfl fun t => ?_⟩
  simp only [D.isInt]
  bv_omega
  rw [if_pos h1, if_neg (by omega)]
  exact h _
theorem p_need_bound {g : Int} {d : D} {Q : QV} {W : WxV} (hd : d.plain = true) (hb : D.isBnd g d = true) (h : ∀ t, Q (.sh .non) t) : d_need_bound [.sh (.int g), .sh d] Q W := by
  unfold d_need_bound b_need_bound_0
  bv_omega
  refine ⟨rfl, p_fits_bound hd fun t => ?_⟩
  simp only [hb]
  bv_omega
  exact h _
theorem p_need_rule {g : Int} {d : D} {Q : QV} {W : WxV} (hd : d.ok) (hb : D.isRule g d = true) (h : ∀ t, Q (.sh .non) t) : d_need_rule [.sh (.int g), .sh d] Q W := by
  unfold d_need_rule b_need_rule_0
  bv_omega
  refine ⟨rfl, p_fits_rule hd fun t => ?_⟩
  simp only [hb]
  bv_omega
  exact h _
def at0 (ns : List Int) (i : Int) : Int := (ns[i.toNat]?).getD 0
theorem atI_ints {ns : List Int} {i : Int} (h0 : 0 ≤ i) (h1 : i < ns.length) : atI (ns.map D.int) i = some (.int (at0 ns i)) := by
  rw [atI_nat h0 (by rw [List.length_map]; exact h1), List.getElem?_map]
  have hl : i.toNat < ns.length := by omega
  unfold at0
  rw [List.getElem?_eq_getElem hl]
  rfl
def D.holdB (ns : List Int) : D → Bool
  | .tup [.int i, .str w, .int n] => if w = "least" then decide (n ≤ at0 ns i) else decide (at0 ns i ≤ n)
  | _ => false
def D.holdR (ns : List Int) : D → Bool
  | .tup (.str k :: r) =>
    if k = "bound" then (match r with
      | [b] => D.holdB ns b
      | _ => false)
    else if k = "apart" then (match r with
      | [.int a, .int b, .int n] => decide (at0 ns a ≤ at0 ns b + n)
      | _ => false)
    else if k = "either" then (match r with
      | [a, b] => D.holdB ns a || D.holdB ns b
      | _ => false)
    else (match r with
      | [.int a, .int b, .str w, .int n] => if w = "least" then decide (n ≤ at0 ns a + at0 ns b) else decide (at0 ns a + at0 ns b ≤ n)
      | _ => false)
  | _ => false
theorem way_str {d : D} (h : D.isWay d = true) : ∃ x, d = .str x ∧ (x = Str.ofString "least" ∨ x = Str.ofString "most") := by
  cases d with
  | str x =>
    simp only [D.isWay, Bool.or_eq_true, decide_eq_true_eq] at h
    exact ⟨x, rfl, h⟩
  | _ => cases h
theorem int_int {d : D} (h : D.isInt d = true) : ∃ i, d = .int i := by
  cases d with
  | int i => exact ⟨i, rfl⟩
  | _ => cases h
theorem bnd_shape {g : Int} {d : D} (h : D.isBnd g d = true) : ∃ i w n, d = .tup [.int i, .str w, .int n] ∧ 0 ≤ i ∧ i < g ∧ (w = Str.ofString "least" ∨ w = Str.ofString "most") := by
  unfold D.isBnd at h
  split at h
  · rw [Bool.and_eq_true, Bool.and_eq_true] at h
    obtain ⟨h1, h2, h3⟩ := h
    obtain ⟨i, rfl, h4, h5⟩ := gauge_int h1
    obtain ⟨w, rfl, h6⟩ := way_str h2
    obtain ⟨n, rfl⟩ := int_int h3
    exact ⟨i, w, n, rfl, h4, h5, h6⟩
  · cases h
def contr (i : Int) (w : Str) (n : Int) : D := if w = Str.ofString "least" then .tup [.int i, .str "most", .int (n - 1)] else .tup [.int i, .str "least", .int (n + 1)]
theorem two_shape {g : Int} {a b : D} (h : D.two g a b = true) : ∃ i j, a = .int i ∧ b = .int j ∧ 0 ≤ i ∧ i < g ∧ 0 ≤ j ∧ j < g := by
  simp only [D.two, Bool.and_eq_true] at h
  obtain ⟨i, rfl, h1, h2⟩ := gauge_int h.1
  obtain ⟨j, rfl, h3, h4⟩ := gauge_int h.2.1
  exact ⟨i, j, rfl, rfl, h1, h2, h3, h4⟩
theorem way_ok {w : Str} (hw : w = Str.ofString "least" ∨ w = Str.ofString "most") : PyData.strOk w = true := by
  rcases hw with rfl | rfl <;> decide +kernel
theorem bnd_plain {i n : Int} {w : Str} (hw : w = Str.ofString "least" ∨ w = Str.ofString "most") : (D.tup [.int i, .str w, .int n]).plain = true := by
  simp only [D.plain, D.plainL, way_ok hw, Bool.and_self]
/-! ### bounds and rules, typed -/
structure Bd where
  pos : Int
  lo : Bool
  num : Int
inductive Rl where
  | bound (b : Bd) | apart (a b n : Int) | sum (a b : Int) (lo : Bool) (n : Int) | either (b c : Bd)
def Bd.d (b : Bd) : D := .tup [.int b.pos, .str (wy b.lo), .int b.num]
def Rl.d : Rl → D
  | .bound b => .tup [.str "bound", b.d]
  | .apart a b n => .tup [.str "apart", .int a, .int b, .int n]
  | .sum a b lo n => .tup [.str "sum", .int a, .int b, .str (wy lo), .int n]
  | .either b c => .tup [.str "either", b.d, c.d]
def Bd.wf (g : Int) (b : Bd) : Prop := 0 ≤ b.pos ∧ b.pos < g
def Rl.wf (g : Int) : Rl → Prop
  | .bound b => b.wf g
  | .apart a b _ => (0 ≤ a ∧ a < g) ∧ (0 ≤ b ∧ b < g) ∧ a ≠ b
  | .sum a b _ _ => 0 ≤ a ∧ a < b ∧ b < g
  | .either b c => b.wf g ∧ c.wf g
def Bd.beyond (ns : List Int) (b : Bd) : Int := if b.lo = true then at0 ns b.pos - b.num else b.num - at0 ns b.pos
def Bd.holds (ns : List Int) (b : Bd) : Bool := decide (0 ≤ b.beyond ns)
def Rl.beyond (ns : List Int) : Rl → Int
  | .bound b => b.beyond ns
  | .apart a b n => at0 ns b + n - at0 ns a
  | .sum a b lo n => if lo = true then at0 ns a + at0 ns b - n else n - (at0 ns a + at0 ns b)
  | .either b c => max (b.beyond ns) (c.beyond ns)
def Rl.holds (ns : List Int) (r : Rl) : Bool := decide (0 ≤ r.beyond ns)
theorem dec_iff {p q : Prop} [Decidable p] [Decidable q] (h : p ↔ q) : decide p = decide q := decide_eq_decide.mpr h
def Bd.opp (b : Bd) : Bd := ⟨b.pos, !b.lo, if b.lo = true then b.num - 1 else b.num + 1⟩
theorem wy_ok (b : Bool) : PyData.strOk (wy b) = true := way_ok (wy_way b)
theorem Bd.plain (b : Bd) : b.d.plain = true := bnd_plain (wy_way _)
theorem Bd.isBnd {g : Int} {b : Bd} (h : b.wf g) : D.isBnd g b.d = true := by
  simp only [Bd.d, D.isBnd, D.isGauge, D.isWay, D.isInt, Bool.and_eq_true, decide_eq_true_eq, Bool.or_eq_true, and_true]
  exact ⟨h, wy_way _⟩
theorem Bd.hold_eq (ns : List Int) (b : Bd) : D.holdB ns b.d = b.holds ns := by
  obtain ⟨p, lo, n⟩ := b
  simp only [Bd.d, D.holdB, wy_least]
  cases lo
  · simp only [Bool.false_eq_true, if_false]
    exact dec_iff (by simp only [Bd.beyond, Bool.false_eq_true, if_false]; omega)
  · simp only [if_true]
    exact dec_iff (by simp only [Bd.beyond, if_true]; omega)
theorem Bd.contr_eq (b : Bd) : contr b.pos (wy b.lo) b.num = b.opp.d := by
  obtain ⟨p, lo, n⟩ := b
  cases lo
  · rfl
  · rfl
theorem word_ok : PyData.strOk (Str.ofString "bound") = true ∧ PyData.strOk (Str.ofString "apart") = true ∧ PyData.strOk (Str.ofString "sum") = true ∧ PyData.strOk (Str.ofString "either") = true := by decide +kernel
theorem Rl.ok (r : Rl) : r.d.ok := by
  obtain ⟨w1, w2, w3, w4⟩ := word_ok
  cases r with
  | bound b =>
    refine ⟨?_, ?_⟩
    · simp only [Rl.d, D.plain, D.plainL, w1, b.plain, Bool.and_self]
    · unfold D.depth
      simp [Rl.d, Bd.d, D.py, D.pyL, PyData.depth, PyData.depthAll]
  | apart a b n =>
    refine ⟨?_, ?_⟩
    · simp only [Rl.d, D.plain, D.plainL, w2, Bool.and_self]
    · unfold D.depth
      simp [Rl.d, D.py, D.pyL, PyData.depth, PyData.depthAll]
  | sum a b lo n =>
    refine ⟨?_, ?_⟩
    · simp only [Rl.d, D.plain, D.plainL, w3, wy_ok, Bool.and_self]
    · unfold D.depth
      simp [Rl.d, D.py, D.pyL, PyData.depth, PyData.depthAll]
  | either b c =>
    refine ⟨?_, ?_⟩
    · simp only [Rl.d, D.plain, D.plainL, w4, b.plain, c.plain, Bool.and_self]
    · unfold D.depth
      simp [Rl.d, Bd.d, D.py, D.pyL, PyData.depth, PyData.depthAll]
theorem Rl.isRule {g : Int} {r : Rl} (h : r.wf g) : D.isRule g r.d = true := by
  cases r with
  | bound b =>
    simp only [Rl.d, D.isRule, if_true]
    exact Bd.isBnd h
  | apart a b n =>
    simp only [Rl.d, D.isRule, sne_apart_bound, if_false, if_true, D.two, D.isGauge, D.num, D.isInt, Bool.and_eq_true, decide_eq_true_eq, and_true]
    exact ⟨h.1, h.2.1, decide_eq_true h.2.2⟩
  | sum a b lo n =>
    obtain ⟨h1, h2, h3⟩ := h
    simp only [Rl.d, D.isRule, sne_sum_bound, sne_sum_apart, if_false, if_true, D.two, D.isGauge, D.num, D.isInt, D.isWay, Bool.and_eq_true, decide_eq_true_eq, and_true, Bool.or_eq_true]
    refine ⟨⟨⟨by omega, by omega⟩, ⟨by omega, by omega⟩, decide_eq_true (show a ≠ b by omega)⟩, decide_eq_true (show a ≤ b by omega), wy_way _⟩
  | either b c =>
    simp only [Rl.d, D.isRule, sne_either_bound, sne_either_apart, sne_either_sum, if_false, if_true, Bool.and_eq_true]
    exact ⟨Bd.isBnd h.1, Bd.isBnd h.2⟩
theorem Rl.hold_eq (ns : List Int) (r : Rl) : D.holdR ns r.d = r.holds ns := by
  cases r with
  | bound b =>
    simp only [Rl.d, D.holdR, if_true, Bd.hold_eq]
    rfl
  | apart a b n =>
    simp only [Rl.d, D.holdR, sne_apart_bound, if_false, if_true]
    exact dec_iff (by simp only [Rl.beyond]; omega)
  | sum a b lo n =>
    simp only [Rl.d, D.holdR, sne_sum_bound, sne_sum_apart, sne_sum_either, if_false, wy_least]
    cases lo
    · simp only [Bool.false_eq_true, if_false]
      exact dec_iff (by simp only [Rl.beyond, Bool.false_eq_true, if_false]; omega)
    · simp only [if_true]
      exact dec_iff (by simp only [Rl.beyond, if_true]; omega)
  | either b c =>
    simp only [Rl.d, D.holdR, sne_either_bound, sne_either_apart, if_false, if_true, Bd.hold_eq, Bd.holds]
    rw [← Bool.decide_or]
    exact dec_iff (by simp only [Rl.beyond]; omega)
theorem bl_rok {b : Bool} : (D.bl b).rok := ⟨⟨rfl, by unfold D.depth; simp [D.py, PyData.depth]⟩, by simp only [D.fits], by simp only [D.sz]; omega⟩
theorem cut_3 {a b c e : D} : Vx.cutD [a, b, c, e] none (some 3) = [a, b, c] := rfl
theorem cut_4 {a b c e f : D} : Vx.cutD [a, b, c, e, f] none (some 4) = [a, b, c, e] := rfl

/-- the indexes from k on of the rules that do not hold -/
def brk (ns : List Int) : Int → List Rl → List Int
  | _, [] => []
  | k, r :: rs => if r.holds ns = true then brk ns (k + 1) rs else k :: brk ns (k + 1) rs
theorem brk_append (ns : List Int) : ∀ (rs qs : List Rl) (k : Int), brk ns k (rs ++ qs) = brk ns k rs ++ brk ns (k + rs.length) qs
  | [], qs, k => by simp [brk]
  | r :: rs, qs, k => by
    have ih := brk_append ns rs qs (k + 1)
    have e : k + 1 + (rs.length : Int) = k + ((r :: rs).length : Int) := by rw [List.length_cons]; omega
    rw [e] at ih
    show (if r.holds ns = true then brk ns (k + 1) (rs ++ qs) else k :: brk ns (k + 1) (rs ++ qs)) = (if r.holds ns = true then brk ns (k + 1) rs else k :: brk ns (k + 1) rs) ++ _
    split
    · exact ih
    · rw [ih]; rfl
theorem brk_len (ns : List Int) : ∀ (rs : List Rl) (k : Int), (brk ns k rs).length ≤ rs.length
  | [], k => Nat.le_refl _
  | r :: rs, k => by
    unfold brk
    have := brk_len ns rs (k + 1)
    split
    · rw [List.length_cons]; omega
    · rw [List.length_cons, List.length_cons]; omega
theorem intsFrom_cons (lo : Int) (n : Nat) : Vx.intsFrom lo (n + 1) = .int lo :: Vx.intsFrom (lo + 1) n := by
  unfold Vx.intsFrom
  rw [List.range_succ_eq_map, List.map_cons, List.map_map]
  congr 1
  · simp
  · apply List.map_congr_left
    intro i _
    show D.int (lo + ((i + 1 : Nat) : Int)) = D.int (lo + 1 + (i : Int))
    congr 1
    omega
theorem atI_rls {pre post : List Rl} {r : Rl} : atI ((pre ++ r :: post).map Rl.d) (pre.length : Int) = some r.d := by
  rw [atI_nat (by omega) (by rw [List.length_map, List.length_append, List.length_cons]; omega), List.getElem?_map]
  have e : ((pre.length : Nat) : Int).toNat = pre.length := by omega
  rw [e, List.getElem?_append_right (Nat.le_refl _), Nat.sub_self]
  rfl
/-! ### small data: what == and repr ask -/
structure Sm (k n : Nat) (d : D) : Prop where
  pl : d.plain = true
  dp : d.depth ≤ k
  ft : d.fits
  sz : d.sz ≤ n
theorem Sm.mono {k n k' n' : Nat} {d : D} (h : Sm k n d) (hk : k ≤ k') (hn : n ≤ n') : Sm k' n' d := ⟨h.pl, Nat.le_trans h.dp hk, h.ft, Nat.le_trans h.sz hn⟩
theorem Sm.ok {k n : Nat} {d : D} (h : Sm k n d) (hk : k ≤ 64) : d.ok := ⟨h.pl, Nat.le_trans h.dp hk⟩
theorem Sm.rok {k n : Nat} {d : D} (h : Sm k n d) (hk : k ≤ 64) (hn : n ≤ 1000000) : d.rok := ⟨h.ok hk, h.ft, Nat.le_trans h.sz hn⟩
theorem sm_int {i : Int} (h1 : -(10 ^ 100) < i) (h2 : i < 10 ^ 100) : Sm 1 101 (D.int i) := ⟨rfl, by unfold D.depth; simp [D.py, PyData.depth], ⟨h1, h2⟩, Nat.le_refl _⟩
theorem sm_bl {b : Bool} : Sm 1 5 (D.bl b) := ⟨rfl, by unfold D.depth; simp [D.py, PyData.depth], trivial, Nat.le_refl _⟩
theorem sm_non : Sm 1 5 D.non := ⟨rfl, by unfold D.depth; simp [D.py, PyData.depth], trivial, Nat.le_refl _⟩
theorem sm_str {x : Str} (h : PyData.strOk x = true) : Sm 1 (10 * x.length + 2) (D.str x) := ⟨h, by unfold D.depth; simp [D.py, PyData.depth], trivial, Nat.le_refl _⟩
theorem smL {k n : Nat} : ∀ {ds : List D}, (∀ d ∈ ds, Sm k n d) → D.plainL ds = true ∧ PyData.depthAll (D.pyL ds) ≤ k ∧ D.fitsL ds ∧ D.szL ds ≤ ds.length * (n + 2)
  | [], _ => ⟨rfl, by simp [D.pyL, PyData.depthAll], trivial, by simp [D.szL]⟩
  | d :: ds, h => by
    obtain ⟨a1, a2, a3, a4⟩ := h d List.mem_cons_self
    obtain ⟨b1, b2, b3, b4⟩ := smL fun e he => h e (List.mem_cons_of_mem _ he)
    refine ⟨?_, ?_, ⟨a3, b3⟩, ?_⟩
    · show (d.plain && D.plainL ds) = true
      rw [a1, b1]; rfl
    · unfold D.depth at a2
      simp only [D.pyL, PyData.depthAll]
      omega
    · show d.sz + 2 + D.szL ds ≤ (ds.length + 1) * (n + 2)
      rw [Nat.add_mul]
      omega
theorem sm_tup {k n m : Nat} {ds : List D} (h : ∀ d ∈ ds, Sm k n d) (hm : ds.length ≤ m) : Sm (k + 1) (m * (n + 2) + 3) (D.tup ds) := by
  obtain ⟨b1, b2, b3, b4⟩ := smL h
  refine ⟨b1, ?_, b3, ?_⟩
  · unfold D.depth
    simp only [D.py, PyData.depth]
    omega
  · have := Nat.mul_le_mul_right (n + 2) hm
    show D.szL ds + 3 ≤ _
    omega
theorem sm_lst {k n m : Nat} {ds : List D} (h : ∀ d ∈ ds, Sm k n d) (hm : ds.length ≤ m) : Sm (k + 1) (m * (n + 2) + 2) (D.lst ds) := by
  obtain ⟨b1, b2, b3, b4⟩ := smL h
  refine ⟨b1, ?_, b3, ?_⟩
  · unfold D.depth
    simp only [D.py, PyData.depth]
    omega
  · have := Nat.mul_le_mul_right (n + 2) hm
    show D.szL ds + 2 ≤ _
    omega
theorem sm_ints {m : Nat} {ns : List Int} (hb : ∀ n ∈ ns, -(10 ^ 100) < n ∧ n < 10 ^ 100) (hm : ns.length ≤ m) : Sm 2 (m * 103 + 3) (D.tup (ns.map D.int)) :=
  sm_tup (k := 1) (n := 101) (fun d hd => by
    obtain ⟨n, hn, rfl⟩ := List.mem_map.mp hd
    exact sm_int (hb n hn).1 (hb n hn).2) (by rw [List.length_map]; exact hm)
theorem eqv_refl {d : D} (h : d.plain = true) : D.eqv d d = true := SeqAt.eqv_refl _ (D.canLay d h)
/-- [e for k in range(n)], e with draws -/
theorem comp_draw {α : Type} {v : Nat} {body : PEv} {f : α → D} {P : α → Prop} {n : Nat} {ρ : Vx.Env} {k : List D → Vx.Env → Prop} (I : Nat → Vx.Env → Prop) (h0 : I 0 ρ)
    (hb : ∀ (j : Nat) (r : Vx.Env), j < n → I j r → ∀ Q : QV, (∀ sv x r', sv.fz = f x → P x → I (j + 1) (wipeE r' [v]) → Q sv r') → body (r.set v (some (.sh (.int j)))) Q noW)
    (hl : n < 16777216) (h : ∀ (xs : List α) r, xs.length = n → (∀ x ∈ xs, P x) → I n r → k (xs.map f) r) : lcL [v] (vgName v) vtYes body (Vx.intsFrom 0 n) [] ρ k := by
  refine lcL_ind (fun rest acc r => ∃ (xs : List α) (m : Nat), rest = Vx.intsFrom (xs.length : Int) m ∧ xs.length + m = n ∧ acc = xs.map f ∧ (∀ x ∈ xs, P x) ∧ I xs.length r) (fun d ds acc r N hI hN => ?_) (fun acc r hI => ?_) _ _ _ ⟨[], n, rfl, by simp, rfl, fun x hx => absurd hx List.not_mem_nil, h0⟩
  · obtain ⟨xs, m, e1, e2, e3, hP, hI⟩ := hI
    cases m with
    | zero => cases e1
    | succ m =>
      rw [Vx.ints_cons] at e1
      cases e1
      refine hb xs.length r (by omega) hI _ fun sv x r' hsv hx hI2 => ?_
      refine ⟨by rw [e3, List.length_map]; omega, ?_⟩
      rw [hsv, e3]
      refine hN _ _ ⟨xs ++ [x], m, ?_, by rw [List.length_append, List.length_singleton]; omega, by rw [List.map_append]; rfl, fun y hy => ?_, by rw [List.length_append, List.length_singleton]; exact hI2⟩
      · rw [List.length_append, List.length_singleton]; rfl
      · rcases List.mem_append.mp hy with hy | hy
        · exact hP y hy
        · rw [List.mem_singleton.mp hy]; exact hx
  · obtain ⟨xs, m, e1, e2, e3, hP, hI⟩ := hI
    cases m with
    | succ m => rw [Vx.ints_cons] at e1; cases e1
    | zero =>
      rw [e3]
      have e : xs.length = n := by omega
      exact h xs r e hP (e ▸ hI)
/-- [x for x in xs if test], the test a look -/
theorem comp_filter {v : Nat} {tt : PTv} {ρ : Vx.Env} {α : Type} {xs : List α} {f : α → D} {p : α → Bool} {k : List D → Vx.Env → Prop} (hv : v < ρ.length) (hw : ρ.set v none = ρ)
    (ht : ∀ x ∈ xs, ∀ K : Bool → Vx.Env → Prop, K (p x) (ρ.set v (some (.sh (f x)))) → tt (ρ.set v (some (.sh (f x)))) K noW)
    (hl : xs.length < 16777216) (h : k ((xs.filter p).map f) ρ) : lcL [v] (vgName v) tt (vVar v) (xs.map f) [] ρ k := by
  have hwipe : ∀ x, wipeE (ρ.set v x) [v] = ρ := fun x => by
    show (ρ.set v x).set v none = ρ
    rw [List.set_set, hw]
  refine lcL_ind (fun rest acc r => ∃ as cs : List α, xs = as ++ cs ∧ rest = cs.map f ∧ acc = (as.filter p).map f ∧ r = ρ) (fun d ds acc r N hI hN => ?_) (fun acc r hI => ?_) _ _ _ ⟨[], xs, rfl, rfl, rfl, rfl⟩
  · obtain ⟨as, cs, e1, e2, e3, rfl⟩ := hI
    cases cs with
    | nil => cases e2
    | cons c cs =>
      cases e2
      have hm : c ∈ xs := by rw [e1]; exact List.mem_append_right _ List.mem_cons_self
      refine ht c hm _ ?_
      cases hp : p c with
      | true =>
        rw [if_pos rfl]
        unfold vVar vRd
        rw [slot_set hv]
        refine ⟨?_, ?_⟩
        · have q1 := List.length_filter_le p as
          have q2 : as.length ≤ xs.length := by rw [e1, List.length_append]; omega
          rw [e3, List.length_map]
          omega
        · rw [hwipe]
          refine hN _ _ ⟨as ++ [c], cs, by rw [e1, List.append_assoc]; rfl, rfl, ?_, rfl⟩
          rw [e3, List.filter_append, List.map_append, List.filter_cons, if_pos hp]
          rfl
      | false =>
        rw [if_neg (by decide), hwipe]
        refine hN _ _ ⟨as ++ [c], cs, by rw [e1, List.append_assoc]; rfl, rfl, ?_, rfl⟩
        rw [e3, List.filter_append, List.map_append, List.filter_cons, if_neg (by rw [hp]; decide)]
        exact (List.append_nil _).symm
  · obtain ⟨as, cs, e1, e2, e3, rfl⟩ := hI
    have : cs = [] := by
      cases cs with
      | nil => rfl
      | cons b cs => cases e2
    subst this
    rw [List.append_nil] at e1
    subst e1
    rw [e3]
    exact h
theorem ints_range (n : Nat) : Vx.intsFrom 0 n = (List.range n).map fun k : Nat => D.int (k : Int) := by
  unfold Vx.intsFrom
  apply List.map_congr_left
  intro k _
  rw [Int.zero_add]

theorem nat_or_one (n : Nat) : n ||| 1 = if n % 2 = 0 then n + 1 else n := by
  have h := Nat.div_add_mod n 2
  have e : (n / 2) <<< 1 = 2 * (n / 2) := by rw [Nat.shiftLeft_eq]; omega
  have k : (n / 2) <<< 1 + 1 = (n / 2) <<< 1 ||| 1 := Nat.shiftLeft_add_eq_or_of_lt (i := 1) (by omega) _
  split
  · have e2 : n = (n / 2) <<< 1 := by omega
    calc n ||| 1 = (n / 2) <<< 1 ||| 1 := by rw [← e2]
      _ = (n / 2) <<< 1 + 1 := k.symm
      _ = n + 1 := by omega
  · have e2 : n = (n / 2) <<< 1 ||| 1 := by omega
    calc n ||| 1 = ((n / 2) <<< 1 ||| 1) ||| 1 := by rw [← e2]
      _ = (n / 2) <<< 1 ||| 1 := by rw [Nat.or_assoc, Nat.or_self]
      _ = n := e2.symm
theorem bit_and1 {s : Int} (h : 0 ≤ s) : Builtin.bitAnd s 1 = s % 2 := by
  obtain ⟨n, rfl⟩ := Int.eq_ofNat_of_zero_le h
  have e : Builtin.bitAnd (n : Int) 1 = ((n &&& 1 : Nat) : Int) := by
    unfold Builtin.bitAnd
    rw [decide_eq_true h]
    rfl
  rw [e, Nat.and_one_is_mod]
  rfl
theorem bit_xor1 {s : Int} (h : 0 ≤ s) : Builtin.bitXor s 1 = if s % 2 = 0 then s + 1 else s - 1 := by
  obtain ⟨n, rfl⟩ := Int.eq_ofNat_of_zero_le h
  have e : Builtin.bitOr (n : Int) 1 = ((n ||| 1 : Nat) : Int) := by
    have hn : ¬ (0 : Int) ≤ -(n : Int) - 1 := by omega
    have hb : Builtin.bitNot (n : Int) = -(n : Int) - 1 := rfl
    unfold Builtin.bitOr Builtin.bitAnd
    rw [hb, decide_eq_false hn]
    show Builtin.bitNot (Builtin.bitNot (((Builtin.bitNot (-(n : Int) - 1)).toNat ||| 1 : Nat) : Int)) = _
    have e1 : Builtin.bitNot (-(n : Int) - 1) = (n : Int) := by show -(-(n : Int) - 1) - 1 = _; omega
    rw [e1, Int.toNat_natCast]
    show -(-((n ||| 1 : Nat) : Int) - 1) - 1 = _
    omega
  have e2 := bit_and1 (s := (n : Int)) h
  unfold Builtin.bitXor
  rw [e, e2, nat_or_one]
  split <;> split <;> omega

/-! ### sides, levels, links, gates -/
def Bd.side (b : Bd) : Int := 2 * b.pos + (if b.lo = true then 0 else 1)
def Bd.level (b : Bd) : Int := if b.lo = true then b.num else -b.num
def bdAt (s l : Int) : Bd := ⟨s / 2, decide (s % 2 = 0), if s % 2 = 0 then l else -l⟩
theorem bdAt_side {s l : Int} (h : 0 ≤ s) : (bdAt s l).side = s := by
  unfold bdAt Bd.side
  simp only [decide_eq_true_eq]
  split <;> omega
theorem bdAt_level {s l : Int} : (bdAt s l).level = l := by
  unfold bdAt Bd.level
  simp only [decide_eq_true_eq]
  split <;> omega
theorem bdAt_self {b : Bd} (h : 0 ≤ b.pos) : bdAt b.side b.level = b := by
  obtain ⟨p, lo, n⟩ := b
  unfold bdAt Bd.side Bd.level
  cases lo
  · have e1 : (2 * p + 1) % 2 ≠ 0 := by omega
    have e2 : (2 * p + 1) / 2 = p := by omega
    simp only [Bool.false_eq_true, if_false, e1, e2, decide_false, Int.neg_neg]
  · have e1 : (2 * p + 0) % 2 = 0 := by omega
    have e2 : (2 * p + 0) / 2 = p := by omega
    simp only [if_true, e1, e2, decide_true]
/-- a link: by the rule with this index, from this side, to this side, with this gain -/
structure Lk where
  idx : Int
  fr : Int
  to : Int
  gain : Int
def Lk.d (k : Lk) : D := .tup [.int k.idx, .int k.fr, .int k.to, .int k.gain]
/-- a gate: by the rule with this index, from this side, from this level on, to this side, this level -/
structure Gt where
  idx : Int
  fr : Int
  least : Int
  to : Int
  lev : Int
def Gt.d (k : Gt) : D := .tup [.int k.idx, .int k.fr, .int k.least, .int k.to, .int k.lev]
def Rl.links (i : Int) : Rl → List Lk
  | .apart a b n => [⟨i, 2 * a, 2 * b, -n⟩, ⟨i, 2 * b + 1, 2 * a + 1, -n⟩]
  | .sum a b lo n => if lo = true then [⟨i, 2 * a + 1, 2 * b, n⟩, ⟨i, 2 * b + 1, 2 * a, n⟩] else [⟨i, 2 * a, 2 * b + 1, -n⟩, ⟨i, 2 * b, 2 * a + 1, -n⟩]
  | _ => []
/-- the other side of the gauge -/
def opS (s : Int) : Int := if s % 2 = 0 then s + 1 else s - 1
def Rl.gates (i : Int) : Rl → List Gt
  | .either b c => [⟨i, opS b.side, 1 - b.level, c.side, c.level⟩, ⟨i, opS c.side, 1 - c.level, b.side, b.level⟩]
  | _ => []
def linksF : Int → List Rl → List Lk
  | _, [] => []
  | i, r :: rs => r.links i ++ linksF (i + 1) rs
def gatesF : Int → List Rl → List Gt
  | _, [] => []
  | i, r :: rs => r.gates i ++ gatesF (i + 1) rs
theorem linksF_append : ∀ (as bs : List Rl) (i : Int), linksF i (as ++ bs) = linksF i as ++ linksF (i + as.length) bs
  | [], bs, i => by simp [linksF]
  | a :: as, bs, i => by
    have ih := linksF_append as bs (i + 1)
    have e : i + 1 + (as.length : Int) = i + ((a :: as).length : Int) := by rw [List.length_cons]; omega
    rw [e] at ih
    show a.links i ++ linksF (i + 1) (as ++ bs) = (a.links i ++ linksF (i + 1) as) ++ _
    rw [ih, List.append_assoc]
theorem gatesF_append : ∀ (as bs : List Rl) (i : Int), gatesF i (as ++ bs) = gatesF i as ++ gatesF (i + as.length) bs
  | [], bs, i => by simp [gatesF]
  | a :: as, bs, i => by
    have ih := gatesF_append as bs (i + 1)
    have e : i + 1 + (as.length : Int) = i + ((a :: as).length : Int) := by rw [List.length_cons]; omega
    rw [e] at ih
    show a.gates i ++ gatesF (i + 1) (as ++ bs) = (a.gates i ++ gatesF (i + 1) as) ++ _
    rw [ih, List.append_assoc]
theorem links_two (r : Rl) (i : Int) : (r.links i).length ≤ 2 := by
  cases r with
  | sum a b lo n => cases lo <;> simp [Rl.links]
  | _ => simp [Rl.links]
theorem gates_two (r : Rl) (i : Int) : (r.gates i).length ≤ 2 := by cases r <;> simp [Rl.gates]
theorem linksF_len : ∀ (rs : List Rl) (i : Int), (linksF i rs).length ≤ 2 * rs.length
  | [], i => Nat.le_refl _
  | r :: rs, i => by
    have := linksF_len rs (i + 1)
    have := links_two r i
    show (r.links i ++ linksF (i + 1) rs).length ≤ _
    rw [List.length_append, List.length_cons]
    omega
theorem gatesF_len : ∀ (rs : List Rl) (i : Int), (gatesF i rs).length ≤ 2 * rs.length
  | [], i => Nat.le_refl _
  | r :: rs, i => by
    have := gatesF_len rs (i + 1)
    have := gates_two r i
    show (r.gates i ++ gatesF (i + 1) rs).length ≤ _
    rw [List.length_append, List.length_cons]
    omega
theorem enum_cons (k : Nat) (d : D) (ds : List D) : Vx.enumD k (d :: ds) = .tup [.int (k : Int), d] :: Vx.enumD (k + 1) ds := rfl
theorem cmul2 {i : Int} : CMul 2 i := by unfold CMul; omega
theorem p_side_of {b : Bd} {Q : QV} {W : WxV} (h : ∀ t, Q (.sh (.int b.side)) t) : d_side_of [.sh b.d] Q W := by
  obtain ⟨p, lo, n⟩ := b
  unfold d_side_of b_side_of_0
  cases lo with
  | true =>
    simp only [Bd.d, Bd.side, wy_true] at h ⊢
    bv_omega
    exact ⟨cmul2, h _⟩
  | false =>
    simp only [Bd.d, Bd.side, wy_false] at h ⊢
    bv_omega
    exact ⟨cmul2, h _⟩
theorem p_level_of {b : Bd} {Q : QV} {W : WxV} (h : ∀ t, Q (.sh (.int b.level)) t) : d_level_of [.sh b.d] Q W := by
  obtain ⟨p, lo, n⟩ := b
  unfold d_level_of b_level_of_1
  cases lo with
  | true =>
    simp only [Bd.d, Bd.level, wy_true] at h ⊢
    bv_omega
    unfold b_level_of_0
    bv_omega
    exact h _
  | false =>
    simp only [Bd.d, Bd.level, wy_false] at h ⊢
    bv_omega
    exact h _
theorem p_bound_at {s l : Int} {Q : QV} {W : WxV} (hs : 0 ≤ s) (h : ∀ t, Q (.sh (bdAt s l).d) t) : d_bound_at [.sh (.int s), .sh (.int l)] Q W := by
  unfold d_bound_at b_bound_at_1
  simp only [fAnd]
  bv_omega
  rw [bit_and1 hs]
  by_cases e : s % 2 = 1
  · have e0 : ¬ s % 2 = 0 := by omega
    simp only [bdAt, e0, if_false, decide_false, Bd.d, wy_false] at h
    simp only [e]
    bv_omega
    exact ⟨cdw (by omega) (by omega), h _⟩
  · have e0 : s % 2 = 0 := by omega
    simp only [bdAt, e0, if_true, decide_true, Bd.d, wy_true] at h
    simp only [e]
    bv_omega
    unfold b_bound_at_0
    bv_omega
    exact ⟨cdw (by omega) (by omega), h _⟩
theorem p_links_of {rs : List Rl} {Q : QV} {W : WxV} (hl : rs.length < 1000000) (h : ∀ t, Q (.ow ((linksF 0 rs).map Lk.d)) t) : d_links_of [.sh (.tup (rs.map Rl.d))] Q W := by
  unfold d_links_of b_links_of_5
  bv_omega
  unfold b_links_of_4
  bv_omega
  simp only [srcE]
  bv_omega
  refine forL_ind (fun rest r => ∃ (as cs : List Rl) (x y : Option SV), rs = as ++ cs ∧ rest = Vx.enumD as.length (cs.map Rl.d) ∧ r = [some (.sh (.tup (rs.map Rl.d))), some (.ow ((linksF 0 as).map Lk.d)), x, y]) (fun d rest r N hI hN => ?_) (fun r hI => ?_) _ _ ⟨[], rs, none, none, rfl, rfl, rfl⟩
  · obtain ⟨as, cs, x, y, e1, e2, rfl⟩ := hI
    cases cs with
    | nil => cases e2
    | cons c cs =>
      rw [List.map_cons, enum_cons] at e2
      cases e2
      have e3 : linksF 0 (as ++ [c]) = linksF 0 as ++ c.links as.length := by
        rw [linksF_append, Int.zero_add]
        show _ ++ (c.links as.length ++ []) = _
        rw [List.append_nil]
      have hlen : (linksF 0 as).length + 2 < 16777216 := by
        have h1 := linksF_len as 0
        have h2 : as.length ≤ rs.length := by rw [e1, List.length_append]; omega
        omega
      have nxt : ∀ (ks : List Lk) (x y : Option SV), ks = c.links as.length → N [some (.sh (.tup (rs.map Rl.d))), some (.ow ((linksF 0 as).map Lk.d ++ ks.map Lk.d)), x, y] := fun ks x y ek =>
        hN _ ⟨as ++ [c], cs, x, y, by rw [e1, List.append_assoc]; rfl, by rw [List.length_append, List.length_singleton], by rw [e3, ek, List.map_append]⟩
      bv_omega
      unfold b_links_of_3
      cases c with
      | bound b =>
        simp only [Rl.d]
        bv_omega
        have := nxt [] (some (.sh (.int as.length))) (some (.sh (.tup [.str "bound", b.d]))) rfl
        rw [List.map_nil, List.append_nil] at this
        exact this
      | either b c =>
        simp only [Rl.d]
        bv_omega
        have := nxt [] (some (.sh (.int as.length))) (some (.sh (.tup [.str "either", b.d, c.d]))) rfl
        rw [List.map_nil, List.append_nil] at this
        exact this
      | apart a b n =>
        simp only [Rl.d]
        bv_omega
        bv_omega
        simp only [fAppend]
        bv_omega
        refine ⟨cmul2, cmul2, ?_, ?_⟩
        · rw [List.length_map]; omega
        bv_omega
        unfold b_links_of_0
        bv_omega
        simp only [fAppend]
        bv_omega
        refine ⟨cmul2, cmul2, ?_, ?_⟩
        · rw [List.length_append, List.length_map, List.length_singleton]; omega
        bv_omega
        rw [List.append_assoc]
        exact nxt [⟨as.length, 2 * a, 2 * b, -n⟩, ⟨as.length, 2 * b + 1, 2 * a + 1, -n⟩] _ _ rfl
      | sum a b lo n =>
        cases lo with
        | true =>
          simp only [Rl.d, wy_true]
          bv_omega
          bv_omega
          simp only [fAppend]
          bv_omega
          refine ⟨cmul2, cmul2, ?_, ?_⟩
          · rw [List.length_map]; omega
          bv_omega
          unfold b_links_of_2
          bv_omega
          simp only [fAppend]
          bv_omega
          refine ⟨cmul2, cmul2, ?_, ?_⟩
          · rw [List.length_append, List.length_map, List.length_singleton]; omega
          bv_omega
          rw [List.append_assoc]
          exact nxt [⟨as.length, 2 * a + 1, 2 * b, n⟩, ⟨as.length, 2 * b + 1, 2 * a, n⟩] _ _ rfl
        | false =>
          simp only [Rl.d, wy_false]
          bv_omega
          bv_omega
          simp only [fAppend]
          bv_omega
          refine ⟨cmul2, cmul2, ?_, ?_⟩
          · rw [List.length_map]; omega
          bv_omega
          unfold b_links_of_1
          bv_omega
          simp only [fAppend]
          bv_omega
          refine ⟨cmul2, cmul2, ?_, ?_⟩
          · rw [List.length_append, List.length_map, List.length_singleton]; omega
          bv_omega
          rw [List.append_assoc]
          exact nxt [⟨as.length, 2 * a, 2 * b + 1, -n⟩, ⟨as.length, 2 * b, 2 * a + 1, -n⟩] _ _ rfl
  · obtain ⟨as, cs, x, y, e1, e2, rfl⟩ := hI
    cases cs with
    | cons c cs => rw [List.map_cons, enum_cons] at e2; cases e2
    | nil =>
      rw [List.append_nil] at e1
      subst e1
      bv_omega
      exact h _

theorem side_pos {g : Int} {b : Bd} (hb : b.wf g) : 0 ≤ b.side := by
  have := hb.1
  unfold Bd.side
  split <;> omega
theorem p_gates_body {g : Int} {c : Rl} {i : Int} {acc : List D} {x0 z u : Option SV} {N : Vx.Env → Prop} {rt : QV} {bk : Vx.Env → Prop} {W : WxV} (hc : c.wf g) (hl : acc.length < 16777200) (hN : ∀ x y z u, N [x0, some (.ow (acc ++ (c.gates i).map Gt.d)), x, y, z, u]) :
    b_gates_of_1 [x0, some (.ow acc), some (.sh (.int i)), some (.sh c.d), z, u] { nx := N, rt := rt, bk := bk, ct := N, ex := W } := by
  cases c with
  | bound b =>
    have := hN (some (.sh (.int i))) (some (.sh (Rl.bound b).d)) z u
    simp only [Rl.gates, List.map_nil, List.append_nil, Rl.d] at this ⊢
    simp_wf
    exact this
  | apart a b n =>
    have := hN (some (.sh (.int i))) (some (.sh (Rl.apart a b n).d)) z u
    simp only [Rl.gates, List.map_nil, List.append_nil, Rl.d] at this ⊢
    simp_wf
    exact this
  | sum a b lo n =>
    have := hN (some (.sh (.int i))) (some (.sh (Rl.sum a b lo n).d)) z u
    simp only [Rl.gates, List.map_nil, List.append_nil, Rl.d] at this ⊢
    simp_wf
    exact this
  | either b c =>
    have := hN (some (.sh (.int i))) (some (.sh (Rl.either b c).d)) (some (.sh c.d)) (some (.sh b.d))
    simp only [Rl.d] at this ⊢
    simp_wf
    rw [forL_consK]
    simp_wf
    refine ⟨rfl, p_side_of fun t1 => ?_⟩
    simp_wf
    refine ⟨rfl, p_level_of fun t2 => ?_⟩
    simp_wf
    refine ⟨rfl, p_side_of fun t3 => ?_⟩
    simp_wf
    refine ⟨rfl, p_level_of fun t4 => ?_⟩
    simp_wf
    rw [bit_xor1 (side_pos hc.1), forL_consK]
    refine ⟨by omega, ?_⟩
    simp_wf
    refine ⟨rfl, p_side_of fun t1 => ?_⟩
    simp_wf
    refine ⟨rfl, p_level_of fun t2 => ?_⟩
    simp_wf
    refine ⟨rfl, p_side_of fun t3 => ?_⟩
    simp_wf
    refine ⟨rfl, p_level_of fun t4 => ?_⟩
    simp_wf
    rw [bit_xor1 (side_pos hc.2), forL_nilK, List.append_assoc]
    refine ⟨by rw [List.length_append, List.length_singleton]; omega, ?_⟩
    exact this
theorem p_gates_of {g : Int} {rs : List Rl} {Q : QV} {W : WxV} (hw : ∀ r ∈ rs, r.wf g) (hl : rs.length < 1000000) (h : ∀ t, Q (.ow ((gatesF 0 rs).map Gt.d)) t) : d_gates_of [.sh (.tup (rs.map Rl.d))] Q W := by
  simp_wf
  refine forL_ind (fun rest r => ∃ (as cs : List Rl) (x y z u : Option SV), rs = as ++ cs ∧ rest = Vx.enumD as.length (cs.map Rl.d) ∧ r = [some (.sh (.tup (rs.map Rl.d))), some (.ow ((gatesF 0 as).map Gt.d)), x, y, z, u]) (fun d rest r N hI hN => ?_) (fun r hI => ?_) _ _ ⟨[], rs, none, none, none, none, rfl, rfl, rfl⟩
  · obtain ⟨as, cs, x, y, z, u, e1, e2, rfl⟩ := hI
    cases cs with
    | nil => cases e2
    | cons c cs =>
      rw [List.map_cons, enum_cons] at e2
      cases e2
      have hc : c.wf g := hw c (by rw [e1]; exact List.mem_append_right _ List.mem_cons_self)
      have e3 : gatesF 0 (as ++ [c]) = gatesF 0 as ++ c.gates as.length := by
        rw [gatesF_append, Int.zero_add]
        show _ ++ (c.gates as.length ++ []) = _
        rw [List.append_nil]
      have hlen : (gatesF 0 as).length < 16777200 := by
        have h1 := gatesF_len as 0
        have h2 : as.length ≤ rs.length := by rw [e1, List.length_append]; omega
        omega
      simp -implicitDefEqProofs only [↓vgTup_K, ↓vgCons_K, ↓vgNil_K, ↓vgName_K, ↓setK_2, ↓setK_3, List.length_cons, List.length_nil, Nat.reduceAdd, true_and]
      refine p_gates_body hc (by rw [List.length_map]; exact hlen) fun x y z u => ?_
      exact hN _ ⟨as ++ [c], cs, x, y, z, u, by rw [e1, List.append_assoc]; rfl, by rw [List.length_append, List.length_singleton], by rw [e3, List.map_append]⟩
  · obtain ⟨as, cs, x, y, z, u, e1, e2, rfl⟩ := hI
    cases cs with
    | cons c cs => rw [List.map_cons, enum_cons] at e2; cases e2
    | nil =>
      rw [List.append_nil] at e1
      subst e1
      simp_wf
      exact h _

/-! ### what a bound forces by a rule -/
theorem Bd.eqv_iff {b c : Bd} : D.eqv b.d c.d = true ↔ b = c := by
  obtain ⟨p, lo, n⟩ := b
  obtain ⟨q, hi, m⟩ := c
  have hw : wy lo = wy hi ↔ lo = hi := by cases lo <;> cases hi <;> simp [wy_true, wy_false, sne_least_most, sne_most_least]
  simp [D.eqv, Bd.d, D.py, D.pyL, PyData.eqv, PyData.eqvAll, hw]
def has (fs : List Bd) (c : Bd) : Bool := (fs.map Bd.d).any fun z => D.eqv z c.d
theorem has_iff {fs : List Bd} {c : Bd} : has fs c = true ↔ c ∈ fs := by
  unfold has
  rw [List.any_eq_true]
  constructor
  · rintro ⟨z, hz, e⟩
    obtain ⟨b, hb, rfl⟩ := List.mem_map.mp hz
    rwa [← Bd.eqv_iff.mp e]
  · intro h
    exact ⟨c.d, List.mem_map.mpr ⟨c, h, rfl⟩, Bd.eqv_iff.mpr rfl⟩
theorem Bd.ok (b : Bd) : b.d.ok := ⟨b.plain, by unfold D.depth; simp [Bd.d, D.py, D.pyL, PyData.depth, PyData.depthAll]⟩
theorem bds_ok (fs : List Bd) : (D.lst (fs.map Bd.d)).ok := by
  have : D.plainL (fs.map Bd.d) = true ∧ PyData.depthAll (D.pyL (fs.map Bd.d)) ≤ 8 := by
    induction fs with
    | nil => exact ⟨rfl, by simp [D.pyL, PyData.depthAll]⟩
    | cons a t ih =>
      refine ⟨?_, ?_⟩
      · show (a.d.plain && D.plainL (t.map Bd.d)) = true
        rw [a.plain, ih.1]; rfl
      · have := ih.2
        have h2 : a.d.py.depth ≤ 8 := by simp [Bd.d, D.py, D.pyL, PyData.depth, PyData.depthAll]
        simp only [List.map_cons, D.pyL, PyData.depthAll]
        omega
  refine ⟨this.1, ?_⟩
  have := this.2
  unfold D.depth
  simp only [D.py, PyData.depth]
  omega
def linkC (s l : Int) : List Lk → List Bd
  | [] => []
  | k :: ks => if k.fr = s then bdAt k.to (l + k.gain) :: linkC s l ks else linkC s l ks
def gateC (s l : Int) : List Gt → List Bd → List Bd
  | [], acc => acc
  | k :: ks, acc => gateC s l ks (if k.fr = s ∧ k.least ≤ l ∧ has acc (bdAt k.to k.lev) = false then acc ++ [bdAt k.to k.lev] else acc)
theorem linkC_append (s l : Int) : ∀ as bs : List Lk, linkC s l (as ++ bs) = linkC s l as ++ linkC s l bs
  | [], bs => rfl
  | a :: as, bs => by
    have ih := linkC_append s l as bs
    show (if a.fr = s then bdAt a.to (l + a.gain) :: linkC s l (as ++ bs) else linkC s l (as ++ bs)) = (if a.fr = s then bdAt a.to (l + a.gain) :: linkC s l as else linkC s l as) ++ _
    split
    · rw [ih]; rfl
    · exact ih
theorem gateC_append (s l : Int) : ∀ (as bs : List Gt) (acc : List Bd), gateC s l (as ++ bs) acc = gateC s l bs (gateC s l as acc)
  | [], bs, acc => rfl
  | a :: as, bs, acc => gateC_append s l as bs _
theorem linkC_len (s l : Int) : ∀ ks : List Lk, (linkC s l ks).length ≤ ks.length
  | [] => Nat.le_refl _
  | k :: ks => by
    have := linkC_len s l ks
    unfold linkC
    split <;> simp only [List.length_cons] <;> omega
theorem gateC_len (s l : Int) : ∀ (ks : List Gt) (acc : List Bd), (gateC s l ks acc).length ≤ acc.length + ks.length
  | [], acc => Nat.le_refl _
  | k :: ks, acc => by
    have := gateC_len s l ks (if k.fr = s ∧ k.least ≤ l ∧ has acc (bdAt k.to k.lev) = false then acc ++ [bdAt k.to k.lev] else acc)
    unfold gateC
    split at this
    · rename_i h
      rw [if_pos h]
      simp only [List.length_append, List.length_cons, List.length_nil] at this ⊢
      omega
    · rename_i h
      rw [if_neg h]
      simp only [List.length_cons] at this ⊢
      omega
/-- all that is found, not yet in sequence -/
def foundC (r : Rl) (m : Bd) : List Bd := gateC m.side m.level (r.gates 0) (linkC m.side m.level (r.links 0))
theorem link_to {g : Int} {r : Rl} (hr : r.wf g) {i : Int} : ∀ k ∈ r.links i, 0 ≤ k.fr ∧ 0 ≤ k.to ∧ k.fr < 2 * g ∧ k.to < 2 * g := by
  intro k hk
  cases r with
  | bound b => simp [Rl.links] at hk
  | either b c => simp [Rl.links] at hk
  | apart a b n =>
    obtain ⟨⟨h1, h2⟩, ⟨h3, h4⟩, _⟩ := hr
    simp only [Rl.links, List.mem_cons, List.not_mem_nil, or_false] at hk
    rcases hk with rfl | rfl <;> refine ⟨?_, ?_, ?_, ?_⟩ <;> simp only <;> omega
  | sum a b lo n =>
    obtain ⟨h1, h2, h3⟩ := hr
    cases lo <;> simp only [Rl.links, if_true, Bool.false_eq_true, if_false, List.mem_cons, List.not_mem_nil, or_false] at hk <;>
      rcases hk with rfl | rfl <;> refine ⟨?_, ?_, ?_, ?_⟩ <;> simp only <;> omega
theorem side_bnd {g : Int} {b : Bd} (hb : b.wf g) : 0 ≤ b.side ∧ b.side < 2 * g := by
  have := hb.1
  have := hb.2
  unfold Bd.side
  split <;> omega
theorem opS_bnd {g s : Int} (h : 0 ≤ s ∧ s < 2 * g) : 0 ≤ opS s ∧ opS s < 2 * g := by
  unfold opS
  split <;> omega
theorem gate_to {g : Int} {r : Rl} (hr : r.wf g) {i : Int} : ∀ k ∈ r.gates i, 0 ≤ k.fr ∧ 0 ≤ k.to ∧ k.fr < 2 * g ∧ k.to < 2 * g := by
  intro k hk
  cases r with
  | either b c =>
    have h1 := side_bnd hr.1
    have h2 := side_bnd hr.2
    have h3 := opS_bnd h1
    have h4 := opS_bnd h2
    simp only [Rl.gates, List.mem_cons, List.not_mem_nil, or_false] at hk
    rcases hk with rfl | rfl
    · exact ⟨h3.1, h2.1, h3.2, h2.2⟩
    · exact ⟨h4.1, h1.1, h4.2, h1.2⟩
  | _ => simp [Rl.gates] at hk
theorem p_forced_by {g : Int} {r : Rl} {m : Bd} {Q : QV} {W : WxV} (hr : r.wf g) (hm : m.wf g) (hg : g < 1000)
    (h2 : ∀ x y : Bd, foundC r m = [x, y] → x.pos = y.pos ∧ x.lo = y.lo)
    (h : ∀ fs t, (fs = foundC r m ∧ (∀ x y, fs = [x, y] → x.num ≤ y.num)) ∨ (∃ x y, foundC r m = [x, y] ∧ y.num < x.num ∧ fs = [y, x]) → Q (.ow (fs.map Bd.d)) t) : d_forced_by [.sh r.d, .sh m.d] Q W := by
  have hrs : ∀ q ∈ [r], q.wf g := fun q hq => by rw [List.mem_singleton.mp hq]; exact hr
  have el : linksF 0 [r] = r.links 0 := List.append_nil _
  have eg : gatesF 0 [r] = r.gates 0 := List.append_nil _
  have l2 := links_two r 0
  have g2 := gates_two r 0
  simp_wf
  refine ⟨rfl, p_side_of fun t1 => ?_⟩
  simp_wf
  refine ⟨rfl, p_level_of fun t2 => ?_⟩
  simp_wf
  refine ⟨rfl, p_links_of (rs := [r]) (by simp) fun t3 => ?_⟩
  rw [el]
  simp_wf
  refine forL_ind (fun rest e => ∃ (as cs : List Lk) (x5 x6 x7 x8 : Option SV), r.links 0 = as ++ cs ∧ rest = cs.map Lk.d ∧ e = [some (.sh r.d), some (.sh m.d), some (.sh (.int m.side)), some (.sh (.int m.level)), some (.ow ((linkC m.side m.level as).map Bd.d)), x5, x6, x7, x8, none, none, none]) (fun d rest e N hI hN => ?_) (fun e hI => ?_) _ _ ⟨[], r.links 0, none, none, none, none, rfl, rfl, rfl⟩
  · obtain ⟨as, cs, x5, x6, x7, x8, e1, e2, rfl⟩ := hI
    cases cs with
    | nil => cases e2
    | cons c cs =>
      cases e2
      have ht := (link_to hr c (by rw [e1]; exact List.mem_append_right _ List.mem_cons_self)).2.1
      have hlen := linkC_len m.side m.level as
      have hle : as.length ≤ 2 := by rw [e1, List.length_append] at l2; omega
      have e3 := linkC_append m.side m.level as [c]
      obtain ⟨i, fr, to, gain⟩ := c
      simp only [Lk.d]
      simp_wf
      have one : linkC m.side m.level [⟨i, fr, to, gain⟩] = if fr = m.side then [bdAt to (m.level + gain)] else [] := by
        unfold linkC linkC
        rfl
      have nxt : ∀ x5 x6 x7 x8, N [some (.sh r.d), some (.sh m.d), some (.sh (.int m.side)), some (.sh (.int m.level)), some (.ow ((linkC m.side m.level (as ++ [⟨i, fr, to, gain⟩])).map Bd.d)), x5, x6, x7, x8, none, none, none] := fun x5 x6 x7 x8 =>
        hN _ ⟨as ++ [⟨i, fr, to, gain⟩], cs, _, _, _, _, by rw [e1, List.append_assoc]; rfl, rfl, rfl⟩
      rw [e3, one] at nxt
      refine ifS_by (fun c0 => ?_) (fun c0 => ?_)
      · rw [if_pos c0, List.map_append] at nxt
        simp_wf
        refine ⟨rfl, p_bound_at ht fun t4 => ?_⟩
        simp_wf
        exact ⟨by rw [List.length_map]; omega, nxt _ _ _ _⟩
      · rw [if_neg c0, List.append_nil] at nxt
        simp_wf
        exact nxt _ _ _ _
  · obtain ⟨as, cs, x5, x6, x7, x8, e1, e2, rfl⟩ := hI
    cases cs with
    | cons c cs => cases e2
    | nil =>
      rw [List.append_nil] at e1
      have hlen := linkC_len m.side m.level as
      rw [e1] at l2
      simp_wf
      refine ⟨rfl, p_gates_of (rs := [r]) hrs (by simp) fun t3 => ?_⟩
      rw [eg]
      simp_wf
      refine forL_ind (fun rest e => ∃ (bs cs : List Gt) (x5 x6 x7 x9 x10 x11 : Option SV), r.gates 0 = bs ++ cs ∧ rest = cs.map Gt.d ∧ e = [some (.sh r.d), some (.sh m.d), some (.sh (.int m.side)), some (.sh (.int m.level)), some (.ow ((gateC m.side m.level bs (linkC m.side m.level as)).map Bd.d)), x5, x6, x7, x8, x9, x10, x11]) (fun d rest e N hI hN => ?_) (fun e hI => ?_) _ _ ⟨[], r.gates 0, x5, x6, x7, none, none, none, rfl, rfl, rfl⟩
      · obtain ⟨bs, cs, x5, x6, x7, x9, x10, x11, e3, e4, rfl⟩ := hI
        cases cs with
        | nil => cases e4
        | cons c cs =>
          cases e4
          have ht := (gate_to hr c (by rw [e3]; exact List.mem_append_right _ List.mem_cons_self)).2.1
          have hgl := gateC_len m.side m.level bs (linkC m.side m.level as)
          have hle : bs.length ≤ 2 := by rw [e3, List.length_append] at g2; omega
          have e5 := gateC_append m.side m.level bs [c] (linkC m.side m.level as)
          obtain ⟨i, fr, least, to, lev⟩ := c
          generalize gateC m.side m.level bs (linkC m.side m.level as) = acc at *
          have one : gateC m.side m.level [⟨i, fr, least, to, lev⟩] acc = if fr = m.side ∧ least ≤ m.level ∧ has acc (bdAt to lev) = false then acc ++ [bdAt to lev] else acc := rfl
          rw [one] at e5
          simp only [Gt.d]
          simp_wf
          refine ⟨rfl, p_bound_at ht fun t4 => ?_⟩
          simp_wf
          have nxt : ∀ x5 x6 x7 x9 x10 x11, N [some (.sh r.d), some (.sh m.d), some (.sh (.int m.side)), some (.sh (.int m.level)), some (.ow ((gateC m.side m.level (bs ++ [⟨i, fr, least, to, lev⟩]) (linkC m.side m.level as)).map Bd.d)), x5, x6, x7, x8, x9, x10, x11] := fun x5 x6 x7 x9 x10 x11 =>
            hN _ ⟨bs ++ [⟨i, fr, least, to, lev⟩], cs, _, _, _, _, _, _, by rw [e3, List.append_assoc]; rfl, rfl, rfl⟩
          rw [e5] at nxt
          refine andK_by (fun c0 => ?_) (fun c0 => ?_)
          · simp_wf
            refine andK_by (fun c1 => ?_) (fun c1 => ?_)
            · simp_wf
              refine ⟨Bd.ok _, bds_ok _, ?_⟩
              have eh : ((acc.map Bd.d).any fun z => D.eqv z (bdAt to lev).d) = has acc (bdAt to lev) := rfl
              rw [eh]
              cases hh : has acc (bdAt to lev) with
              | true =>
                simp_wf
                rw [if_neg (fun z => by rw [hh] at z; cases z.2.2)] at nxt
                exact nxt _ _ _ _ _ _
              | false =>
                simp_wf
                rw [if_pos ⟨c0, c1, hh⟩, List.map_append] at nxt
                exact ⟨by rw [List.length_map]; omega, nxt _ _ _ _ _ _⟩
            · simp_wf
              rw [if_neg (fun z => c1 z.2.1)] at nxt
              exact nxt _ _ _ _ _ _
          · simp_wf
            rw [if_neg (fun z => c0 z.1)] at nxt
            exact nxt _ _ _ _ _ _
      · obtain ⟨bs, cs, x5, x6, x7, x9, x10, x11, e3, e4, rfl⟩ := hI
        cases cs with
        | cons c cs => cases e4
        | nil =>
          rw [List.append_nil] at e3
          have ef : gateC m.side m.level bs (linkC m.side m.level as) = foundC r m := by unfold foundC; rw [e1, e3]
          rw [ef]
          generalize hF : foundC r m = F at *
          simp_wf
          match F, hF with
          | [], _ =>
            simp_wf
            exact h [] _ (.inl ⟨rfl, fun x y z => nomatch z⟩)
          | [x], _ =>
            simp_wf
            exact h [x] _ (.inl ⟨rfl, fun x y z => nomatch z⟩)
          | [x, y], _ =>
            obtain ⟨p, lo, n⟩ := x
            obtain ⟨p2, lo2, n2⟩ := y
            obtain ⟨q1, q2⟩ := h2 _ _ rfl
            simp only at q1 q2
            subst q1 q2
            have pl1 : D.plainL [.int p, .str (wy lo), .int n] = true := Bd.plain ⟨p, lo, n⟩
            have pl2 : D.plainL [.int p, .str (wy lo), .int n2] = true := Bd.plain ⟨p, lo, n2⟩
            have dp : (D.tup [.int p, .str (wy lo), .int n2]).depth ≤ 64 := (Bd.ok ⟨p, lo, n2⟩).2
            have al : PySem.W.alike (D.tup [.int p, .str (wy lo), .int n2]).py (D.tup [.int p, .str (wy lo), .int n]).py = true := by simp [D.py, D.pyL, PySem.W.alike, PySem.W.alikeAll]
            simp only [Bd.d, List.map_cons, List.map_nil]
            simp_wf
            refine ⟨pl2, pl1, dp, al, ?_⟩
            rw [dataLt_ints2]
            refine ifS_by (fun c => ?_) (fun c => ?_)
            · simp_wf
              exact h [⟨p, lo, n2⟩, ⟨p, lo, n⟩] _ (.inr ⟨_, _, rfl, c, rfl⟩)
            · simp_wf
              exact h [⟨p, lo, n⟩, ⟨p, lo, n2⟩] _ (.inl ⟨rfl, fun x y z => by cases z; simp only; omega⟩)
          | x :: y :: z :: F, _ =>
            simp_wf
            refine andK_by (fun c => ?_) (fun c => ?_)
            · exfalso; omega
            · simp_wf
              exact h (x :: y :: z :: F) _ (.inl ⟨rfl, fun x y z => nomatch z⟩)
theorem p_forcedC {g : Int} {r : Rl} {m : Bd} {Q : QV} {W : WxV} (h1 : 1 ≤ g) (h5 : g ≤ 5) (hr : r.wf g) (hm : m.wf g)
    (h2 : ∀ x y : Bd, foundC r m = [x, y] → x.pos = y.pos ∧ x.lo = y.lo)
    (h : ∀ fs t, (fs = foundC r m ∧ (∀ x y, fs = [x, y] → x.num ≤ y.num)) ∨ (∃ x y, foundC r m = [x, y] ∧ y.num < x.num ∧ fs = [y, x]) → Q (.ow (fs.map Bd.d)) t) : d_forced [.sh (.int g), .sh r.d, .sh m.d] Q W := by
  simp_wf
  refine ⟨rfl, p_need_gauges h1 h5 fun t1 => ?_⟩
  simp_wf
  refine ⟨rfl, p_need_rule r.ok (Rl.isRule hr) fun t1 => ?_⟩
  simp_wf
  refine ⟨rfl, p_need_bound (Bd.plain _) (Bd.isBnd hm) fun t1 => ?_⟩
  simp_wf
  refine ⟨rfl, p_forced_by hr hm (by omega) h2 fun fs t hf => ?_⟩
  simp_wf
  exact h fs _ hf

def Bd.against (m b : Bd) : Bool := decide (m.pos = b.pos ∧ m.lo ≠ b.lo ∧ (if m.lo = true then b.num < m.num else m.num < b.num))
theorem against_iff {m b : Bd} : (opS b.side = m.side ∧ 1 - b.level ≤ m.level) ↔ m.against b = true := by
  obtain ⟨p, lo, n⟩ := m
  obtain ⟨q, hi, k⟩ := b
  unfold Bd.against Bd.side Bd.level opS
  rw [decide_eq_true_eq]
  cases lo <;> cases hi <;> simp <;> first | omega | (intro z; omega)
/-- what a bound forces, as it is found -/
def forcedS (r : Rl) (m : Bd) : List Bd := match r with
  | .bound _ => []
  | .apart a b n => if m.lo = true then (if m.pos = a then [⟨b, true, m.num - n⟩] else []) else (if m.pos = b then [⟨a, false, m.num + n⟩] else [])
  | .sum a b lo n => if m.lo = lo then [] else if m.pos = a then [⟨b, lo, n - m.num⟩] else if m.pos = b then [⟨a, lo, n - m.num⟩] else []
  | .either b c => if m.against c = true ∧ has (if m.against b = true then [c] else []) b = false then (if m.against b = true then [c] else []) ++ [b] else (if m.against b = true then [c] else [])
theorem bdAt_even {p l : Int} : bdAt (2 * p) l = ⟨p, true, l⟩ := by
  unfold bdAt
  have e1 : 2 * p % 2 = 0 := by omega
  have e2 : 2 * p / 2 = p := by omega
  simp only [e1, e2, if_true, decide_true]
theorem bdAt_odd {p l : Int} : bdAt (2 * p + 1) l = ⟨p, false, -l⟩ := by
  unfold bdAt
  have e1 : ¬ (2 * p + 1) % 2 = 0 := by omega
  have e2 : (2 * p + 1) / 2 = p := by omega
  simp only [e1, e2, if_false, decide_false]
theorem foundC_eq {g : Int} {r : Rl} {m : Bd} (hr : r.wf g) (hm : m.wf g) : foundC r m = forcedS r m := by
  cases r with
  | bound b => rfl
  | apart a b n =>
    obtain ⟨p, lo, k⟩ := m
    obtain ⟨_, _, hab⟩ := hr
    unfold foundC forcedS
    cases lo
    · have s1 : ¬ 2 * a = 2 * p + 1 := by omega
      have s2 : (2 * b + 1 = 2 * p + 1) ↔ p = b := by omega
      simp only [Rl.gates, Rl.links, gateC, linkC, Bd.side, Bd.level, Bool.false_eq_true, if_false, s1, s2, bdAt_odd]
      split
      · congr 2; omega
      · rfl
    · have s1 : (2 * a = 2 * p + 0) ↔ p = a := by omega
      have s2 : ¬ 2 * b + 1 = 2 * p + 0 := by omega
      simp only [Rl.gates, Rl.links, gateC, linkC, Bd.side, Bd.level, if_true, if_false, s1, s2, bdAt_even]
      split
      · congr 2
      · rfl
  | sum a b lo n =>
    obtain ⟨p, hi, k⟩ := m
    obtain ⟨h1, h2, h3⟩ := hr
    unfold foundC forcedS
    cases lo <;> cases hi
    · have s1 : ¬ 2 * a = 2 * p + 1 := by omega
      have s2 : ¬ 2 * b = 2 * p + 1 := by omega
      simp only [Rl.gates, Rl.links, gateC, linkC, Bd.side, Bd.level, Bool.false_eq_true, if_false, if_true, s1, s2]
    · have s1 : (2 * a = 2 * p + 0) ↔ p = a := by omega
      have s2 : (2 * b = 2 * p + 0) ↔ p = b := by omega
      simp only [Rl.gates, Rl.links, gateC, linkC, Bd.side, Bd.level, Bool.false_eq_true, Bool.true_eq_false, if_false, if_true, s1, s2, bdAt_odd]
      by_cases c1 : p = a
      · have c2 : ¬ p = b := by omega
        simp only [c1, c2, if_true, if_false]
        rw [if_neg (by omega)]
        congr 2; omega
      · simp only [c1, if_false]
        split
        · congr 2; omega
        · rfl
    · have s1 : (2 * a + 1 = 2 * p + 1) ↔ p = a := by omega
      have s2 : (2 * b + 1 = 2 * p + 1) ↔ p = b := by omega
      simp only [Rl.gates, Rl.links, gateC, linkC, Bd.side, Bd.level, Bool.false_eq_true, if_false, if_true, s1, s2, bdAt_even]
      by_cases c1 : p = a
      · have c2 : ¬ p = b := by omega
        simp only [c1, c2, if_true, if_false]
        rw [if_neg (by omega)]
        congr 2; omega
      · simp only [c1, if_false]
        split
        · congr 2; omega
        · rfl
    · have s1 : ¬ 2 * a + 1 = 2 * p + 0 := by omega
      have s2 : ¬ 2 * b + 1 = 2 * p + 0 := by omega
      simp only [Rl.gates, Rl.links, gateC, linkC, Bd.side, Bd.level, if_false, if_true, s1, s2]
  | either b c =>
    have eb : bdAt b.side b.level = b := bdAt_self hr.1.1
    have ec : bdAt c.side c.level = c := bdAt_self hr.2.1
    unfold foundC forcedS
    simp only [Rl.gates, Rl.links, gateC, linkC, eb, ec]
    have n0 : has [] c = false := rfl
    have k1 : (opS b.side = m.side ∧ 1 - b.level ≤ m.level ∧ has [] c = false) ↔ m.against b = true := by rw [← against_iff, n0]; simp
    simp only [k1, List.nil_append]
    have k2 : ∀ fs : List Bd, (opS c.side = m.side ∧ 1 - c.level ≤ m.level ∧ has fs b = false) ↔ (m.against c = true ∧ has fs b = false) := fun fs => by rw [← against_iff, and_assoc]
    simp only [k2]
/-- .. in sequence -/
def forcedO (r : Rl) (m : Bd) : List Bd := match forcedS r m with
  | [x, y] => if y.num < x.num then [y, x] else [x, y]
  | l => l
theorem forcedS_two {r : Rl} {m x y : Bd} (h : forcedS r m = [x, y]) : x.pos = y.pos ∧ x.lo = y.lo ∧ x ≠ y := by
  unfold forcedS at h
  cases r with
  | bound b => cases h
  | apart a b n => simp only at h; split at h <;> split at h <;> cases h
  | sum a b lo n => simp only at h; split at h <;> try split at h <;> try split at h
                    all_goals cases h
  | either b c =>
    simp only at h
    by_cases k1 : m.against b = true
    · by_cases k2 : m.against c = true
      · cases hh : has [c] b with
        | true => simp [k1, k2, hh] at h
        | false =>
          simp [k1, k2, hh] at h
          obtain ⟨e1, e2⟩ := h
          subst e1 e2
          obtain ⟨a1, a2, _⟩ := decide_eq_true_eq.mp k1
          obtain ⟨b1, b2, _⟩ := decide_eq_true_eq.mp k2
          refine ⟨by omega, ?_, fun z => ?_⟩
          · cases hm : m.lo <;> cases hx : b.lo <;> cases hy : c.lo <;> simp_all
          · have : has [c] b = true := has_iff.mpr (by rw [z]; exact List.mem_cons_self)
            rw [hh] at this
            cases this
      · simp [k1, k2] at h
    · by_cases k2 : m.against c = true
      · have n0 : has [] b = false := rfl
        simp [k1, k2, n0] at h
      · simp [k1, k2] at h
theorem forcedO_mem {r : Rl} {m c : Bd} : c ∈ forcedO r m ↔ c ∈ forcedS r m := by
  unfold forcedO
  split
  · rename_i x y e
    rw [e]
    split
    · simp only [List.mem_cons, List.not_mem_nil, or_false]
      exact Or.comm
    · exact Iff.rfl
  · exact Iff.rfl
theorem p_forced {g : Int} {r : Rl} {m : Bd} {Q : QV} {W : WxV} (h1 : 1 ≤ g) (h5 : g ≤ 5) (hr : r.wf g) (hm : m.wf g) (h : ∀ t, Q (.ow ((forcedO r m).map Bd.d)) t) : d_forced [.sh (.int g), .sh r.d, .sh m.d] Q W := by
  refine p_forcedC h1 h5 hr hm (fun x y e => ?_) fun fs t hf => ?_
  · rw [foundC_eq hr hm] at e
    have := forcedS_two e
    exact ⟨this.1, this.2.1⟩
  · rw [foundC_eq hr hm] at hf
    have e : fs = forcedO r m := by
      unfold forcedO
      rcases hf with ⟨e, hn⟩ | ⟨x, y, e, hn, e2⟩
      · split
        · rename_i x y e3
          rw [if_neg (by have := hn x y (e.trans e3); omega), e, e3]
        · exact e
      · rw [e]
        simp only
        rw [if_pos hn, e2]
    rw [e]
    exact h t

/-- the numbers of a rule are within a limit -/
def Bd.lim (B : Int) (b : Bd) : Prop := -B ≤ b.num ∧ b.num ≤ B
def Rl.lim (B : Int) : Rl → Prop
  | .bound b => b.lim B
  | .apart _ _ n => -B ≤ n ∧ n ≤ B
  | .sum _ _ _ n => -B ≤ n ∧ n ≤ B
  | .either b c => b.lim B ∧ c.lim B
theorem Bd.lim.up {B C : Int} {b : Bd} (h : b.lim B) (hb : B ≤ C) : b.lim C := ⟨by have := h.1; omega, by have := h.2; omega⟩
theorem Rl.lim.up {B C : Int} {r : Rl} (h : r.lim B) (hb : B ≤ C) : r.lim C := by
  cases r with
  | bound b => exact Bd.lim.up h hb
  | apart a b n => exact ⟨by have := h.1; omega, by have := h.2; omega⟩
  | sum a b lo n => exact ⟨by have := h.1; omega, by have := h.2; omega⟩
  | either b c => exact ⟨Bd.lim.up h.1 hb, Bd.lim.up h.2 hb⟩
def spotLim (B : Int) (v : List Int) : Prop := ∀ i : Int, 0 ≤ i → i < v.length → -B ≤ at0 v i ∧ at0 v i ≤ B

def bdKey (b : Bd) : List L2.Key := [.inl b.pos, .inr (wy b.lo), .inl b.num]
theorem wy_inj {a b : Bool} (h : wy a = wy b) : a = b := by
  cases a <;> cases b
  · rfl
  · exact absurd h (by decide +kernel)
  · exact absurd h (by decide +kernel)
  · rfl
theorem bdKey_inj {a b : Bd} (h : bdKey a = bdKey b) : a = b := by
  obtain ⟨p, lo, n⟩ := a
  obtain ⟨q, hi, k⟩ := b
  unfold bdKey at h
  simp only [List.cons.injEq, Sum.inl.injEq, Sum.inr.injEq, and_true] at h
  obtain ⟨e1, e2, e3⟩ := h
  have := wy_inj e2
  subst e1; subst e3; subst this
  rfl
theorem bdKey_d (b : Bd) : Vx.tupK (bdKey b) = b.d := rfl
theorem keysD_bds : ∀ bs : List Bd, Vx.keysD (bs.map Bd.d) = some (bs.map bdKey)
  | [] => rfl
  | b :: bs => by
    rw [List.map_cons, List.map_cons]
    show (match Vx.tkeyD b.d, Vx.keysD (bs.map Bd.d) with
      | some k, some ks => some (k :: ks)
      | _, _ => none) = _
    rw [keysD_bds bs]
    rfl
def Bd.le (a b : Bd) : Prop := a.pos < b.pos ∨ a.pos = b.pos ∧ ((a.lo = true ∧ b.lo = false) ∨ (a.lo = b.lo ∧ a.num ≤ b.num))
theorem way_lt1 : itemLt (Vx.tokK (.inr (wy true))) (Vx.tokK (.inr (wy false))) = true := by decide +kernel
theorem way_lt2 : itemLt (Vx.tokK (.inr (wy false))) (Vx.tokK (.inr (wy true))) = false := by decide +kernel
theorem way_lt3 (a : Bool) : itemLt (Vx.tokK (.inr (wy a))) (Vx.tokK (.inr (wy a))) = false := by cases a <;> decide +kernel
theorem ltK_bd {a b : Bd} (h : Vx.ltK (bdKey b) (bdKey a) = false) : a.le b := by
  obtain ⟨p, lo, n⟩ := a
  obtain ⟨q, hi, k⟩ := b
  unfold Vx.ltK bdKey at h
  simp only [List.map_cons, List.map_nil] at h
  rw [lex_false] at h
  obtain ⟨h1, h2⟩ := h
  have h1 : ¬ q < p := of_decide_eq_false (show decide (q < p) = false from h1)
  rcases h2 with h2 | h2
  · exact .inl (of_decide_eq_true (show decide (p < q) = true from h2))
  · by_cases hpq : p < q
    · exact .inl hpq
    · have e : p = q := by omega
      refine .inr ⟨e, ?_⟩
      rw [lex_false] at h2
      obtain ⟨h3, h4⟩ := h2
      cases lo <;> cases hi
      · refine .inr ⟨rfl, ?_⟩
        rcases h4 with h4 | h4
        · exact absurd ((way_lt3 false).symm.trans h4) Bool.false_ne_true
        · rw [lex_false] at h4
          have := of_decide_eq_false (show decide (k < n) = false from h4.1)
          show n ≤ k
          omega
      · rcases h4 with h4 | h4
        · exact absurd (way_lt2.symm.trans h4) Bool.false_ne_true
        · exact absurd (h3.symm.trans way_lt1) Bool.false_ne_true
      · exact .inl ⟨rfl, rfl⟩
      · refine .inr ⟨rfl, ?_⟩
        rcases h4 with h4 | h4
        · exact absurd ((way_lt3 true).symm.trans h4) Bool.false_ne_true
        · rw [lex_false] at h4
          have := of_decide_eq_false (show decide (k < n) = false from h4.1)
          show n ≤ k
          omega
theorem keys_back {bs : List Bd} : ∀ ms : List (List L2.Key), (∀ x ∈ ms, x ∈ bs.map bdKey) → ∃ L : List Bd, ms = L.map bdKey ∧ ∀ b ∈ L, b ∈ bs
  | [], _ => ⟨[], rfl, fun b hb => absurd hb List.not_mem_nil⟩
  | x :: ms, h => by
    obtain ⟨b, hb, e⟩ := List.mem_map.mp (h x List.mem_cons_self)
    obtain ⟨L, e2, h2⟩ := keys_back ms fun y hy => h y (List.mem_cons_of_mem _ hy)
    refine ⟨b :: L, by rw [List.map_cons, e, e2], fun c hc => ?_⟩
    rcases List.mem_cons.mp hc with rfl | hc
    · exact hb
    · exact h2 c hc
/-- sorted(set(..)) of bounds -/
theorem sortSet_bds {bs : List Bd} {k : SV → Prop} (hl : bs.length ≤ 18) (h : ∀ L : List Bd, L.Nodup → (∀ b, b ∈ L ↔ b ∈ bs) → L.Pairwise Bd.le → k (.ow (L.map Bd.d))) : Vx.fSortSetT (.lst (bs.map Bd.d)) k := by
  unfold Vx.fSortSetT
  dsimp only
  rw [keysD_bds bs]
  dsimp only
  refine ⟨by rw [List.length_map]; exact hl, ⟨fun i => i == 1, fun x hx => ?_⟩, fun ms h1 h2 h3 => ?_⟩
  · obtain ⟨b, _, rfl⟩ := List.mem_map.mp hx
    exact ⟨rfl, by unfold bdKey; exact List.cons_ne_nil _ _⟩
  · obtain ⟨L, rfl, hL⟩ := keys_back ms fun x hx => (h2 x).mp hx
    have e : (L.map bdKey).map Vx.tupK = L.map Bd.d := by rw [List.map_map]; rfl
    rw [e]
    refine h L ?_ (fun b => ⟨hL b, fun hb => ?_⟩) ?_
    · exact List.Pairwise.of_map bdKey (fun _ _ hne e => hne (congrArg bdKey e)) h1
    · obtain ⟨c, hc, e⟩ := List.mem_map.mp ((h2 (bdKey b)).mpr (List.mem_map.mpr ⟨b, hb, rfl⟩))
      rw [← bdKey_inj e]; exact hc
    · rw [List.pairwise_map] at h3
      exact h3.imp fun hh => ltK_bd hh
/-- two lists of bounds in sequence, of the same bounds -/
theorem bd_le_anti {a b : Bd} (h : a.le b) (k : b.le a) : a = b := by
  obtain ⟨p, lo, n⟩ := a
  obtain ⟨q, hi, m⟩ := b
  unfold Bd.le at h k
  simp only at h k
  have e1 : p = q := by omega
  subst e1
  have h : (lo = true ∧ hi = false) ∨ lo = hi ∧ n ≤ m := by
    rcases h with h | h
    · omega
    · exact h.2
  have k : (hi = true ∧ lo = false) ∨ hi = lo ∧ m ≤ n := by
    rcases k with k | k
    · omega
    · exact k.2
  cases lo <;> cases hi <;> simp at h k
  · rw [show n = m by omega]
  · rw [show n = m by omega]
theorem bds_uniq : ∀ (a b : List Bd), a.Nodup → b.Nodup → a.Pairwise Bd.le → b.Pairwise Bd.le → (∀ x, x ∈ a ↔ x ∈ b) → a = b
  | [], [], _, _, _, _, _ => rfl
  | [], y :: b, _, _, _, _, h => absurd ((h y).mpr List.mem_cons_self) List.not_mem_nil
  | x :: a, [], _, _, _, _, h => absurd ((h x).mp List.mem_cons_self) List.not_mem_nil
  | x :: a, y :: b, na, nb, pa, pb, h => by
    have a1 := List.pairwise_cons.mp pa
    have b1 := List.pairwise_cons.mp pb
    have a2 := List.nodup_cons.mp na
    have b2 := List.nodup_cons.mp nb
    have e : x = y := by
      rcases List.mem_cons.mp ((h x).mp List.mem_cons_self) with e | m
      · exact e
      · rcases List.mem_cons.mp ((h y).mpr List.mem_cons_self) with e | m2
        · exact e.symm
        · exact bd_le_anti (a1.1 y m2) (b1.1 x m)
    subst e
    rw [bds_uniq a b a2.2 b2.2 a1.2 b1.2 fun i => ⟨fun hi => by
      rcases List.mem_cons.mp ((h i).mp (List.mem_cons_of_mem _ hi)) with rfl | m
      · exact absurd hi a2.1
      · exact m, fun hi => by
      rcases List.mem_cons.mp ((h i).mpr (List.mem_cons_of_mem _ hi)) with rfl | m
      · exact absurd hi b2.1
      · exact m⟩]

theorem row_ok (ns : List Int) : (D.tup (ns.map .int)).plain = true ∧ (D.tup (ns.map .int)).depth ≤ 3 := by
  have : ∀ ns : List Int, D.plainL (ns.map D.int) = true ∧ PyData.depthAll (D.pyL (ns.map D.int)) ≤ 1 := fun ns => by
    induction ns with
    | nil => exact ⟨rfl, by simp [D.pyL, PyData.depthAll]⟩
    | cons a t ih =>
      refine ⟨?_, ?_⟩
      · show (true && D.plainL (t.map D.int)) = true; rw [ih.1]; rfl
      · have := ih.2
        simp only [List.map_cons, D.pyL, PyData.depthAll, D.py, PyData.depth]
        omega
  refine ⟨(this ns).1, ?_⟩
  have := (this ns).2
  unfold D.depth
  simp only [D.py, PyData.depth]
  omega
theorem rows_ok (fss : List (List Int)) : (D.lst (fss.map fun ns => .tup (ns.map .int))).plain = true ∧ (D.lst (fss.map fun ns => .tup (ns.map .int))).depth ≤ 64 := by
  have : D.plainL (fss.map fun ns => D.tup (ns.map .int)) = true ∧ PyData.depthAll (D.pyL (fss.map fun ns => D.tup (ns.map .int))) ≤ 3 := by
    induction fss with
    | nil => exact ⟨rfl, by simp [D.pyL, PyData.depthAll]⟩
    | cons a t ih =>
      obtain ⟨h1, h2⟩ := row_ok a
      refine ⟨?_, ?_⟩
      · show ((D.tup (a.map .int)).plain && D.plainL (t.map fun ns => D.tup (ns.map .int))) = true
        rw [h1, ih.1]; rfl
      · have := ih.2
        unfold D.depth at h2
        simp only [List.map_cons, D.pyL, PyData.depthAll]
        omega
  refine ⟨this.1, ?_⟩
  have := this.2
  unfold D.depth
  simp only [D.py, PyData.depth]
  omega

/-- the law's bag: at most m draws are behind -/
def Bag (m : Int) (l : List D) : Prop := ∃ a b c : Int, l = [.int a, .int b, .int c] ∧ 0 ≤ a ∧ 0 ≤ b ∧ b < 1000000000000000177 ∧ 0 ≤ c ∧ c ≤ m
theorem Bag.up {m n : Int} {l : List D} (h : Bag m l) (hm : m ≤ n) : Bag n l := by
  obtain ⟨a, b, c, e, h1, h2, h3, h4, h5⟩ := h
  exact ⟨a, b, c, e, h1, h2, h3, h4, by omega⟩
theorem p_draw {l : List D} {m n : Int} {Q : QV} {W : WxV} (hB : Bag m l) (hm : m < 1000000000000) (hn : 0 < n) (hn2 : n < 100000000000000000)
    (h : ∀ r l' t, 0 ≤ r → r < n → Bag (m + 1) l' → Q (.sh (.int r)) (some (.mu l') :: t)) : d__law_draw [.mu l, .sh (.int n)] Q W := by
  obtain ⟨a, b, c, rfl, ha, hb, hb2, hc, hc2⟩ := hB
  unfold d__law_draw b__law_draw_7
  bv_omega
  split
  · refine ⟨hn, ?_⟩
    unfold b__law_draw_0
    bv_omega
    refine ⟨cdw hn (by omega), ?_⟩
    exact h _ _ _ (Int.emod_nonneg _ (by omega)) (Int.emod_lt_of_pos _ hn) ⟨_, _, _, rfl, Int.ediv_nonneg ha (by omega), hb, hb2, hc, by omega⟩
  · unfold b__law_draw_6
    bv_omega
    unfold b__law_draw_5
    bv_omega
    unfold b__law_draw_4
    bv_omega
    unfold CMul
    refine ⟨by omega, by omega, by omega, ?_⟩
    generalize 3 * (c + 1) * (c + 1) + 70001 * (c + 1) + 29 = g1
    unfold b__law_draw_3
    bv_omega
    unfold CMul
    refine ⟨by omega, by omega, ?_⟩
    have k1 := Int.emod_nonneg ((b + 19 * (c + 1) + 5) * g1) (show (1000000000000000003 : Int) ≠ 0 by omega)
    have k2 := Int.emod_lt_of_pos ((b + 19 * (c + 1) + 5) * g1) (show (0 : Int) < 1000000000000000003 by omega)
    generalize ((b + 19 * (c + 1) + 5) * g1) % 1000000000000000003 = g2 at k1 k2 ⊢
    unfold b__law_draw_2
    bv_omega
    unfold CMul
    refine ⟨by omega, by omega, ?_⟩
    have k3 := Int.emod_nonneg (g2 * g2 + 524287 * g2 + (c + 1)) (show (2305843009213693951 : Int) ≠ 0 by omega)
    have k4 := Int.emod_lt_of_pos (g2 * g2 + 524287 * g2 + (c + 1)) (show (0 : Int) < 2305843009213693951 by omega)
    generalize (g2 * g2 + 524287 * g2 + (c + 1)) % 2305843009213693951 = g3 at k3 k4 ⊢
    unfold b__law_draw_1
    bv_omega
    unfold CMul
    refine ⟨by omega, by omega, cdw (by omega) (by omega), hn, ?_⟩
    exact h _ _ _ (Int.emod_nonneg _ (by omega)) (Int.emod_lt_of_pos _ hn) ⟨_, _, _, rfl, ha, hb, hb2, by omega, by omega⟩

theorem cpow10 {j : Int} (h0 : 0 ≤ j) (h1 : j ≤ 1000) : CPow 10 j := ⟨h0, by omega, by decide⟩
theorem p_bag {n : Int} {Q : QV} {W : WxV} (h : ∀ l t, Bag 0 l → Q (.ow l) t) : d__law_bag [.sh (.int n)] Q W := by
  unfold d__law_bag b__law_bag_0
  bv_omega
  refine ⟨cpow10 (by omega) (by omega), h _ _ ⟨_, _, _, rfl, ?_, Int.emod_nonneg _ (by omega), Int.emod_lt_of_pos _ (by omega), by omega, by omega⟩⟩
  split <;> omega
theorem p_number {l : List D} {m : Int} {Q : QV} {W : WxV} (hB : Bag m l) (hm : m < 999999999990) (h : ∀ r l' t, -(400000000000) < r → r < 400000000000 → Bag (m + 2) l' → Q (.sh (.int r)) (some (.mu l') :: t)) : d__law_number [.mu l] Q W := by
  unfold d__law_number b__law_number_3
  bv_omega
  refine ⟨rfl, p_draw hB (by omega) (by omega) (by omega) fun r l1 t1 h1 h2 hB1 => ?_⟩
  bv_omega
  unfold b__law_number_2
  bv_omega
  split
  · bv_omega
    refine ⟨rfl, p_draw hB1 (by omega) (by omega) (by omega) fun r l2 t2 h3 h4 hB2 => ?_⟩
    bv_omega
    exact h _ _ _ (by omega) (by omega) (hB2.up (by omega))
  · bv_omega
    unfold b__law_number_1
    bv_omega
    split
    · bv_omega
      refine ⟨rfl, p_draw hB1 (by omega) (by omega) (by omega) fun r l2 t2 h3 h4 hB2 => ?_⟩
      bv_omega
      exact h _ _ _ (by omega) (by omega) (hB2.up (by omega))
    · bv_omega
      unfold b__law_number_0
      bv_omega
      unfold CMul
      refine ⟨cpow10 (by omega) (by omega), by omega, rfl, p_draw hB1 (by omega) (by omega) (by omega) fun r l2 t2 h3 h4 hB2 => ?_⟩
      bv_omega
      refine ⟨cpow10 (by omega) (by omega), ?_⟩
      exact h _ _ _ (by omega) (by omega) (hB2.up (by omega))
theorem p_way {l : List D} {m : Int} {Q : QV} {W : WxV} (hB : Bag m l) (hm : m < 999999999990) (h : ∀ w l' t, (w = Str.ofString "least" ∨ w = Str.ofString "most") → Bag (m + 1) l' → Q (.sh (.str w)) (some (.mu l') :: t)) : d__law_way [.mu l] Q W := by
  unfold d__law_way b__law_way_0
  bv_omega
  refine ⟨rfl, p_draw hB (by omega) (by omega) (by omega) fun r l1 t1 h1 h2 hB1 => ?_⟩
  bv_omega
  have e : r = 0 ∨ r = 1 := by omega
  rcases e with rfl | rfl
  · bv_omega
    exact h _ _ _ (.inl rfl) hB1
  · bv_omega
    exact h _ _ _ (.inr rfl) hB1
theorem p_mark {l : List D} {m g : Int} {Q : QV} {W : WxV} (hB : Bag m l) (hm : m < 999999999900) (hg : 0 < g) (hg2 : g < 1000) (h : ∀ i w n l' t, 0 ≤ i → i < g → (w = Str.ofString "least" ∨ w = Str.ofString "most") → -(400000000000) < n → n < 400000000000 → Bag (m + 4) l' →
    Q (.sh (.tup [.int i, .str w, .int n])) (some (.mu l') :: t)) : d__law_mark [.mu l, .sh (.int g)] Q W := by
  unfold d__law_mark b__law_mark_0
  bv_omega
  refine ⟨rfl, p_draw hB (by omega) (by omega) (by omega) fun i l1 t1 h1 h2 hB1 => ?_⟩
  bv_omega
  refine ⟨rfl, p_way hB1 (by omega) fun w l2 t2 h3 hB2 => ?_⟩
  bv_omega
  refine ⟨rfl, p_number hB2 (by omega) fun n l3 t3 h4 h5 hB3 => ?_⟩
  bv_omega
  exact h _ _ _ _ _ h1 h2 h3 h4 h5 (hB3.up (by omega))

theorem p_wayT {l : List D} {m : Int} {Q : QV} {W : WxV} (hB : Bag m l) (hm : m < 999999999990) (h : ∀ lo l' t, Bag (m + 1) l' → Q (.sh (.str (wy lo))) (some (.mu l') :: t)) : d__law_way [.mu l] Q W :=
  p_way hB hm fun w l' t hw hB' => by
    obtain ⟨lo, rfl⟩ := wy_of hw
    exact h lo l' t hB'
theorem p_markT {l : List D} {m g : Int} {Q : QV} {W : WxV} (hB : Bag m l) (hm : m < 999999999900) (hg : 0 < g) (hg2 : g < 1000) (h : ∀ (b : Bd) l' t, b.wf g → -(400000000000) < b.num → b.num < 400000000000 → Bag (m + 4) l' →
    Q (.sh b.d) (some (.mu l') :: t)) : d__law_mark [.mu l, .sh (.int g)] Q W :=
  p_mark hB hm hg hg2 fun i w n l' t h0 h1 hw h3 h4 hB' => by
    obtain ⟨lo, rfl⟩ := wy_of hw
    exact h ⟨i, lo, n⟩ l' t ⟨h0, h1⟩ h3 h4 hB'
theorem p_two {l : List D} {m g : Int} {Q : QV} {W : WxV} (hB : Bag m l) (hm : m < 999999999900) (hg : 2 ≤ g) (hg2 : g < 1000) (h : ∀ i j l' t, 0 ≤ i → i < j → j < g → Bag (m + 2) l' → Q (.sh (.tup [.int i, .int j])) (some (.mu l') :: t)) : d__law_two [.mu l, .sh (.int g)] Q W := by
  unfold d__law_two b__law_two_1
  bv_omega
  refine ⟨rfl, p_draw hB (by omega) (by omega) (by omega) fun i l1 t1 h1 h2 hB1 => ?_⟩
  bv_omega
  unfold b__law_two_0
  bv_omega
  refine ⟨rfl, p_draw hB1 (by omega) (by omega) (by omega) fun j l2 t2 h3 h4 hB2 => ?_⟩
  bv_omega
  exact h _ _ _ _ h1 (by omega) (by omega) (hB2.up (by omega))
theorem p_term {l : List D} {m g : Int} {Q : QV} {W : WxV} (hB : Bag m l) (hm : m < 990000000000) (hg : 1 ≤ g) (hg2 : g < 1000) (h : ∀ (r : Rl) l' t, r.wf g → Bag (m + 10) l' → Q (.sh r.d) (some (.mu l') :: t)) : d__law_term [.mu l, .sh (.int g)] Q W := by
  unfold d__law_term b__law_term_6
  bv_omega
  refine ⟨rfl, p_draw hB (by omega) (by omega) (by omega) fun k l1 t1 h1 h2 hB1 => ?_⟩
  bv_omega
  unfold b__law_term_5
  bv_omega
  by_cases k0 : k = 0
  · simp only [k0]
    bv_omega
    refine ⟨rfl, p_markT hB1 (by omega) (by omega) (by omega) fun b l2 t2 hb _ _ hB2 => ?_⟩
    bv_omega
    exact h (.bound b) _ _ hb (hB2.up (by omega))
  · simp only [k0]
    bv_omega
    unfold b__law_term_4
    by_cases e : k < 3 ∨ g = 1
    · bv_omega
      by_cases k3 : k < 3
      · simp only [k3]
        bv_omega
        refine ⟨rfl, p_markT hB1 (by omega) (by omega) (by omega) fun b l2 t2 hb _ _ hB2 => ?_⟩
        bv_omega
        refine ⟨rfl, p_markT hB2 (by omega) (by omega) (by omega) fun c l3 t3 hc _ _ hB3 => ?_⟩
        bv_omega
        exact h (.either b c) _ _ ⟨hb, hc⟩ (hB3.up (by omega))
      · have g1 : g = 1 := e.resolve_left k3
        simp only [k3, g1]
        bv_omega
        subst g1
        refine ⟨rfl, p_markT hB1 (by omega) (by omega) (by omega) fun b l2 t2 hb _ _ hB2 => ?_⟩
        bv_omega
        refine ⟨rfl, p_markT hB2 (by omega) (by omega) (by omega) fun c l3 t3 hc _ _ hB3 => ?_⟩
        bv_omega
        exact h (.either b c) _ _ ⟨hb, hc⟩ (hB3.up (by omega))
    · have k3 : ¬ k < 3 := fun z => e (.inl z)
      have g1 : ¬ g = 1 := fun z => e (.inr z)
      bv_omega
      simp only [k3, g1]
      bv_omega
      unfold b__law_term_3
      bv_omega
      refine ⟨rfl, p_two hB1 (by omega) (by omega) (by omega) fun i j l2 t2 h3 h4 h5 hB2 => ?_⟩
      bv_omega
      unfold b__law_term_2
      bv_omega
      by_cases e3 : k = 3
      · simp only [e3]
        bv_omega
        refine ⟨rfl, p_number hB2 (by omega) fun n l3 t3 _ _ hB3 => ?_⟩
        bv_omega
        exact h (.apart i j n) _ _ ⟨⟨h3, by omega⟩, ⟨by omega, h5⟩, by omega⟩ (hB3.up (by omega))
      · simp only [e3]
        bv_omega
        unfold b__law_term_1
        bv_omega
        by_cases e4 : k = 4
        · simp only [e4]
          bv_omega
          refine ⟨rfl, p_number hB2 (by omega) fun n l3 t3 _ _ hB3 => ?_⟩
          bv_omega
          exact h (.apart j i n) _ _ ⟨⟨by omega, h5⟩, ⟨h3, by omega⟩, by omega⟩ (hB3.up (by omega))
        · simp only [e4]
          bv_omega
          unfold b__law_term_0
          bv_omega
          refine ⟨rfl, p_wayT hB2 (by omega) fun lo l3 t3 hB3 => ?_⟩
          bv_omega
          refine ⟨rfl, p_number hB3 (by omega) fun n l4 t4 _ _ hB4 => ?_⟩
          bv_omega
          exact h (.sum i j lo n) _ _ ⟨h3, h4, h5⟩ (hB4.up (by omega))
theorem p_termB {l : List D} {m g : Int} {Q : QV} {W : WxV} (hB : Bag m l) (hm : m < 990000000000) (hg : 1 ≤ g) (hg2 : g < 1000) (h : ∀ (r : Rl) l' t, r.wf g → r.lim 400000000000 → Bag (m + 10) l' → Q (.sh r.d) (some (.mu l') :: t)) : d__law_term [.mu l, .sh (.int g)] Q W := by
  unfold d__law_term b__law_term_6
  bv_omega
  refine ⟨rfl, p_draw hB (by omega) (by omega) (by omega) fun k l1 t1 h1 h2 hB1 => ?_⟩
  bv_omega
  unfold b__law_term_5
  bv_omega
  by_cases k0 : k = 0
  · simp only [k0]
    bv_omega
    refine ⟨rfl, p_markT hB1 (by omega) (by omega) (by omega) fun b l2 t2 hb b1 b2 hB2 => ?_⟩
    bv_omega
    exact h (.bound b) _ _ hb ⟨by omega, by omega⟩ (hB2.up (by omega))
  · simp only [k0]
    bv_omega
    unfold b__law_term_4
    by_cases e : k < 3 ∨ g = 1
    · bv_omega
      by_cases k3 : k < 3
      · simp only [k3]
        bv_omega
        refine ⟨rfl, p_markT hB1 (by omega) (by omega) (by omega) fun b l2 t2 hb b1 b2 hB2 => ?_⟩
        bv_omega
        refine ⟨rfl, p_markT hB2 (by omega) (by omega) (by omega) fun c l3 t3 hc c1 c2 hB3 => ?_⟩
        bv_omega
        exact h (.either b c) _ _ ⟨hb, hc⟩ ⟨⟨by omega, by omega⟩, by omega, by omega⟩ (hB3.up (by omega))
      · have g1 : g = 1 := e.resolve_left k3
        simp only [k3, g1]
        bv_omega
        subst g1
        refine ⟨rfl, p_markT hB1 (by omega) (by omega) (by omega) fun b l2 t2 hb b1 b2 hB2 => ?_⟩
        bv_omega
        refine ⟨rfl, p_markT hB2 (by omega) (by omega) (by omega) fun c l3 t3 hc c1 c2 hB3 => ?_⟩
        bv_omega
        exact h (.either b c) _ _ ⟨hb, hc⟩ ⟨⟨by omega, by omega⟩, by omega, by omega⟩ (hB3.up (by omega))
    · have k3 : ¬ k < 3 := fun z => e (.inl z)
      have g1 : ¬ g = 1 := fun z => e (.inr z)
      bv_omega
      simp only [k3, g1]
      bv_omega
      unfold b__law_term_3
      bv_omega
      refine ⟨rfl, p_two hB1 (by omega) (by omega) (by omega) fun i j l2 t2 h3 h4 h5 hB2 => ?_⟩
      bv_omega
      unfold b__law_term_2
      bv_omega
      by_cases e3 : k = 3
      · simp only [e3]
        bv_omega
        refine ⟨rfl, p_number hB2 (by omega) fun n l3 t3 n1 n2 hB3 => ?_⟩
        bv_omega
        exact h (.apart i j n) _ _ ⟨⟨h3, by omega⟩, ⟨by omega, h5⟩, by omega⟩ ⟨by omega, by omega⟩ (hB3.up (by omega))
      · simp only [e3]
        bv_omega
        unfold b__law_term_1
        bv_omega
        by_cases e4 : k = 4
        · simp only [e4]
          bv_omega
          refine ⟨rfl, p_number hB2 (by omega) fun n l3 t3 n1 n2 hB3 => ?_⟩
          bv_omega
          exact h (.apart j i n) _ _ ⟨⟨by omega, h5⟩, ⟨h3, by omega⟩, by omega⟩ ⟨by omega, by omega⟩ (hB3.up (by omega))
        · simp only [e4]
          bv_omega
          unfold b__law_term_0
          bv_omega
          refine ⟨rfl, p_wayT hB2 (by omega) fun lo l3 t3 hB3 => ?_⟩
          bv_omega
          refine ⟨rfl, p_number hB3 (by omega) fun n l4 t4 n1 n2 hB4 => ?_⟩
          bv_omega
          exact h (.sum i j lo n) _ _ ⟨h3, h4, h5⟩ ⟨by omega, by omega⟩ (hB4.up (by omega))

theorem p_law_opposeN {x y : Bd} {Q : QV} {W : WxV} (h : ∀ t, Q (.sh (.bl (x.against y))) t) : d__law_oppose [.sh x.d, .sh y.d] Q W := by
  obtain ⟨p, lo, n⟩ := x
  obtain ⟨q, hi, k⟩ := y
  unfold Bd.against at h
  by_cases hp : p = q
  · subst hp
    cases lo <;> cases hi
    · simp only [Bd.d, wy_false]
      simp_wf
      have e : decide (p = p ∧ false ≠ false ∧ (if false = true then k < n else n < k)) = false := decide_eq_false (by simp)
      rw [e] at h
      exact h _
    · simp only [Bd.d, wy_false, wy_true]
      simp_wf
      have e : decide (p = p ∧ false ≠ true ∧ (if false = true then k < n else n < k)) = decide (n < k) := by simp
      rw [e] at h
      exact h _
    · simp only [Bd.d, wy_false, wy_true]
      simp_wf
      have e : decide (p = p ∧ true ≠ false ∧ (if true = true then k < n else n < k)) = decide (k < n) := by simp
      rw [e] at h
      exact h _
    · simp only [Bd.d, wy_true]
      simp_wf
      have e : decide (p = p ∧ true ≠ true ∧ (if true = true then k < n else n < k)) = false := decide_eq_false (by simp)
      rw [e] at h
      exact h _
  · have e : decide (p = q ∧ lo ≠ hi ∧ (if lo = true then k < n else n < k)) = false := decide_eq_false fun z => hp z.1
    rw [e] at h
    simp only [Bd.d]
    simp_wf
    rw [decide_eq_false hp]
    simp_wf
    exact h _
theorem forcedS_few {r : Rl} {m : Bd} : (forcedS r m).length ≤ 2 := by
  unfold forcedS
  cases r with
  | bound b => simp
  | apart a b n => simp only; split <;> split <;> simp
  | sum a b lo n => simp only; split <;> try split <;> try split
                    all_goals simp
  | either b c =>
    have two : (if m.against b = true then [c] else []).length ≤ 1 := by split <;> simp
    dsimp only
    generalize (if m.against b = true then [c] else []) = L at two ⊢
    split
    · rw [List.length_append, List.length_singleton]; omega
    · omega
theorem forcedO_sort {r : Rl} {m : Bd} {L : List Bd} (h1 : L.Nodup) (h2 : ∀ x, x ∈ L ↔ x ∈ forcedS r m) (h3 : L.Pairwise Bd.le) : L = forcedO r m := by
  have two := @forcedS_two r m
  have len := forcedS_few (r := r) (m := m)
  refine Eq.symm ?_
  unfold forcedO
  generalize forcedS r m = F at *
  have fin : ∀ G : List Bd, G.Nodup → (∀ x, x ∈ G ↔ x ∈ F) → G.Pairwise Bd.le → G = L := fun G g1 g2 g3 => bds_uniq G L g1 h1 g3 h3 fun x => (g2 x).trans (h2 x).symm
  match F, len with
  | [], _ => exact fin [] List.nodup_nil (fun _ => Iff.rfl) List.Pairwise.nil
  | [x], _ => exact fin [x] (List.nodup_cons.mpr ⟨List.not_mem_nil, List.nodup_nil⟩) (fun _ => Iff.rfl) (List.pairwise_singleton ..)
  | [x, y], _ =>
    obtain ⟨t1, t2, t3⟩ := two rfl
    simp only
    split
    · next k =>
      refine fin [y, x] (by simp [Ne.symm t3]) (fun z => by simp [or_comm]) ?_
      simp only [List.pairwise_cons, List.mem_singleton, forall_eq, List.not_mem_nil, false_imp_iff, implies_true, List.Pairwise.nil, and_true, true_and]
      exact .inr ⟨t1.symm, .inr ⟨t2.symm, by omega⟩⟩
    · next k =>
      refine fin [x, y] (by simp [t3]) (fun _ => Iff.rfl) ?_
      simp only [List.pairwise_cons, List.mem_singleton, forall_eq, List.not_mem_nil, false_imp_iff, implies_true, List.Pairwise.nil, and_true, true_and]
      exact .inr ⟨t1, .inr ⟨t2, by omega⟩⟩
theorem p_law_forced {g : Int} {r : Rl} {m : Bd} {Q : QV} {W : WxV} (hr : r.wf g) (h : ∀ t, Q (.ow ((forcedO r m).map Bd.d)) t) : d__law_forced [.sh r.d, .sh m.d] Q W := by
  cases r with
  | bound b =>
    obtain ⟨p, lo, n⟩ := m
    have e : forcedO (.bound b) ⟨p, lo, n⟩ = [] := rfl
    rw [e] at h
    have srt := fun (k : SV → Prop) hk => sortSet_bds (bs := []) (k := k) (by simp) hk
    simp only [Rl.d, Bd.d, List.map_nil] at h srt ⊢
    generalize wy lo = WY at *
    generalize wy b.lo = WB at *
    simp_wf
    refine srt _ fun L h1 h2 h3 => ?_
    cases L with
    | nil => exact h _
    | cons a L => exact absurd ((h2 a).mp List.mem_cons_self) List.not_mem_nil
  | apart a b n =>
    obtain ⟨p, lo, k⟩ := m
    obtain ⟨_, _, hab⟩ := hr
    have srt := fun (K : SV → Prop) hk => sortSet_bds (bs := []) (k := K) (by simp) hk
    have nil : forcedO (.apart a b n) ⟨p, lo, k⟩ = [] → ∀ t : Vx.Env, fSortSetT (.lst ([] : List D)) fun sv => Q sv t := fun e t => srt _ fun L h1 h2 h3 => by
      rw [e] at h
      cases L with
      | nil => exact h _
      | cons a L => exact absurd ((h2 a).mp List.mem_cons_self) List.not_mem_nil
    cases lo with
    | true =>
      simp only [Rl.d, Bd.d, wy_true] at h ⊢
      by_cases c : p = a
      · subst c
        have e : forcedO (.apart p b n) ⟨p, true, k⟩ = [⟨b, true, k - n⟩] := by unfold forcedO forcedS; simp
        rw [e] at h
        simp_wf
        exact h _
      · have e : forcedO (.apart a b n) ⟨p, true, k⟩ = [] := by unfold forcedO forcedS; simp [c]
        simp_wf
        rw [decide_eq_false c]
        simp_wf
        by_cases c2 : p = b
        · rw [decide_eq_true c2]
          simp_wf
          exact nil e _
        · rw [decide_eq_false c2]
          simp_wf
          exact nil e _
    | false =>
      simp only [Rl.d, Bd.d, wy_false] at h ⊢
      by_cases c : p = b
      · subst c
        have c2 : ¬ p = a := fun z => hab z.symm
        have e : forcedO (.apart a p n) ⟨p, false, k⟩ = [⟨a, false, k + n⟩] := by unfold forcedO forcedS; simp
        rw [e] at h
        simp_wf
        rw [decide_eq_false c2]
        simp_wf
        exact h _
      · have e : forcedO (.apart a b n) ⟨p, false, k⟩ = [] := by unfold forcedO forcedS; simp [c]
        by_cases c2 : p = a
        · simp_wf
          rw [decide_eq_true c2]
          simp_wf
          rw [decide_eq_false c]
          simp_wf
          exact nil e _
        · simp_wf
          rw [decide_eq_false c2]
          simp_wf
          rw [decide_eq_false c]
          simp_wf
          exact nil e _
  | sum a b lo n =>
    obtain ⟨p, hi, k⟩ := m
    obtain ⟨_, hab, _⟩ := hr
    have srt := fun (K : SV → Prop) hk => sortSet_bds (bs := []) (k := K) (by simp) hk
    have nil : forcedO (.sum a b lo n) ⟨p, hi, k⟩ = [] → ∀ t : Vx.Env, fSortSetT (.lst ([] : List D)) fun sv => Q sv t := fun e t => srt _ fun L h1 h2 h3 => by
      rw [e] at h
      cases L with
      | nil => exact h _
      | cons a L => exact absurd ((h2 a).mp List.mem_cons_self) List.not_mem_nil
    have anyE : ([D.int a, D.int b].any fun z => z.eqv (D.int p)) = decide (p = a ∨ p = b) := by
      have e : ∀ x y : Int, D.eqv (.int x) (.int y) = decide (x = y) := fun x y => by
        rw [Bool.eq_iff_iff]
        simp [D.eqv, D.py, PyData.eqv]
      simp only [List.any_cons, List.any_nil, Bool.or_false, e]
      rw [← Bool.decide_or]
      exact decide_eq_decide.mpr ⟨fun h => h.imp Eq.symm Eq.symm, fun h => h.imp Eq.symm Eq.symm⟩
    have ok1 : (D.int p).ok := ⟨rfl, by unfold D.depth; simp [D.py, PyData.depth]⟩
    have ok2 : (D.lst [D.int a, D.int b]).ok := ⟨rfl, by unfold D.depth; simp [D.py, D.pyL, PyData.depth, PyData.depthAll]⟩
    by_cases c : p = a ∨ p = b
    · have hit : hi ≠ lo → ∀ t, Q (.ow [.tup [.int (a + b - p), .str (wy lo), .int (n - k)]]) t := fun c1 t => by
        have hl : ¬ hi = lo := c1
        by_cases c2 : p = a
        · subst c2
          have e : forcedO (.sum p b lo n) ⟨p, hi, k⟩ = [⟨b, lo, n - k⟩] := by unfold forcedO forcedS; simp [hl]
          rw [e] at h
          rw [show p + b - p = b by omega]
          exact h _
        · have c3 : p = b := c.resolve_left c2
          subst c3
          have e : forcedO (.sum a p lo n) ⟨p, hi, k⟩ = [⟨a, lo, n - k⟩] := by unfold forcedO forcedS; simp [hl, c2]
          rw [e] at h
          rw [show a + p - p = a by omega]
          exact h _
      have ni : hi = lo → ∀ t : Vx.Env, fSortSetT (.lst ([] : List D)) fun sv => Q sv t := fun e1 => nil (by subst e1; unfold forcedO forcedS; simp)
      clear nil srt h
      cases lo <;> cases hi <;> simp only [Rl.d, Bd.d, wy_true, wy_false] at hit ⊢ <;> simp_wf <;> refine ⟨ok1, ok2, ?_⟩ <;> rw [anyE, decide_eq_true c] <;> simp_wf
      · exact ni rfl _
      · exact hit (by simp) _
      · exact hit (by simp) _
      · exact ni rfl _
    · have e : forcedO (.sum a b lo n) ⟨p, hi, k⟩ = [] := by
        have c2 : ¬ p = a := fun z => c (.inl z)
        have c3 : ¬ p = b := fun z => c (.inr z)
        unfold forcedO forcedS
        by_cases c1 : hi = lo <;> simp [c1, c2, c3]
      have ni := nil e
      simp only [Rl.d, Bd.d]
      generalize wy hi = WY at *
      generalize wy lo = WL at *
      simp_wf
      refine ⟨ok1, ok2, ?_⟩
      rw [anyE, decide_eq_false c]
      simp_wf
      exact ni _
  | either b c =>
    have po := fun (x y : Bd) (Q' : QV) (W' : WxV) hq => p_law_opposeN (x := x) (y := y) (Q := Q') (W := W') hq
    obtain ⟨p, hi, k⟩ := m
    have srt := fun (bs : List Bd) (hl : bs.length ≤ 18) (hm : ∀ x, x ∈ bs ↔ x ∈ forcedS (.either b c) ⟨p, hi, k⟩) (t : Vx.Env) => sortSet_bds (bs := bs) (k := fun sv => Q sv t) hl fun L h1 h2 h3 => by
      rw [forcedO_sort h1 (fun x => (h2 x).trans (hm x)) h3]
      exact h t
    generalize hm : (⟨p, hi, k⟩ : Bd) = m at *
    have em : m.d = .tup [.int p, .str (wy hi), .int k] := by rw [← hm]; rfl
    have e0 : forcedS (.either b c) m = if m.against c = true ∧ has (if m.against b = true then [c] else []) b = false then (if m.against b = true then [c] else []) ++ [b] else (if m.against b = true then [c] else []) := rfl
    have pob := po m b
    have poc := po m c
    have okb := b.ok
    have ok0 := bds_ok []
    have ok1 := bds_ok [c]
    have s0 := fun (h0 : forcedS (.either b c) m = []) => srt [] (by simp) (fun x => by rw [h0])
    have s1 := fun (h0 : forcedS (.either b c) m = [c]) => srt [c] (by simp) (fun x => by rw [h0])
    have s2 := fun (h0 : forcedS (.either b c) m = [b]) => srt [b] (by simp) (fun x => by rw [h0])
    have s3 := fun (h0 : forcedS (.either b c) m = [c, b]) => srt [c, b] (by simp) (fun x => by rw [h0])
    rw [em] at pob poc ⊢
    have hh1 : ([c.d].any fun z => D.eqv z b.d) = has [c] b := rfl
    simp only [Rl.d, List.map_cons, List.map_nil] at s0 s1 s2 s3 ok0 ok1 ⊢
    generalize b.d = BD at *
    generalize c.d = CD at *
    generalize wy hi = WY at *
    by_cases k1 : m.against b = true
    · by_cases k2 : m.against c = true
      · rw [k1] at pob
        rw [k2] at poc
        simp_wf
        refine ⟨rfl, pob _ _ fun t => ?_⟩
        simp_wf
        refine ⟨by omega, rfl, poc _ _ fun t => ?_⟩
        simp_wf
        refine ⟨okb, ok1, ?_⟩
        rw [hh1]
        cases hb : has [c] b with
        | true =>
          simp_wf
          exact s1 (by rw [e0, if_pos k1, if_neg (by rw [hb]; simp)]) _
        | false =>
          simp_wf
          exact ⟨by omega, s3 (by rw [e0, if_pos k1, if_pos ⟨k2, hb⟩]; rfl) _⟩
      · rw [k1] at pob
        rw [Bool.eq_false_iff.mpr k2] at poc
        simp_wf
        refine ⟨rfl, pob _ _ fun t => ?_⟩
        simp_wf
        refine ⟨by omega, rfl, poc _ _ fun t => ?_⟩
        simp_wf
        exact s1 (by rw [e0, if_pos k1, if_neg (fun z => k2 z.1)]) _
    · by_cases k2 : m.against c = true
      · rw [Bool.eq_false_iff.mpr k1] at pob
        rw [k2] at poc
        simp_wf
        refine ⟨rfl, pob _ _ fun t => ?_⟩
        simp_wf
        refine ⟨rfl, poc _ _ fun t => ?_⟩
        simp_wf
        refine ⟨okb, ok0, ?_⟩
        rw [List.any_nil]
        simp_wf
        exact ⟨by omega, s2 (by rw [e0, if_neg k1, if_pos ⟨k2, rfl⟩]; rfl) _⟩
      · rw [Bool.eq_false_iff.mpr k1] at pob
        rw [Bool.eq_false_iff.mpr k2] at poc
        simp_wf
        refine ⟨rfl, pob _ _ fun t => ?_⟩
        simp_wf
        refine ⟨rfl, poc _ _ fun t => ?_⟩
        simp_wf
        exact s0 (by rw [e0, if_neg k1, if_neg (fun z => k2 z.1)]) _

abbrev B09 : Int := 1000000000010
theorem at_pair {a b : D} {q : Int} (h0 : 0 ≤ q) (h1 : q < 2) : ∃ x, atI [a, b] q = some x ∧ (x = a ∨ x = b) := by
  have : q = 0 ∨ q = 1 := by omega
  rcases this with rfl | rfl
  · exact ⟨a, rfl, .inl rfl⟩
  · exact ⟨b, rfl, .inr rfl⟩
theorem p_beside {g : Int} {r : Rl} {l : List D} {m : Int} {Q : QV} {W : WxV} (hB : Bag m l) (hm : m < 900000000000) (hr : r.wf g) (lr : r.lim 400000000000) (h : ∀ (b : Bd) l' t, b.wf g → b.lim B09 → Bag (m + 20) l' → Q (.sh b.d) (some (.mu l') :: t)) : d__law_beside [.mu l, .sh (.int g), .sh r.d] Q W := by
  have mk : ∀ (b : Bd) (l1 : List D) (m1 : Int) (x2 : Option SV), b.wf g → b.lim 400000000000 → Bag m1 l1 → m1 ≤ m + 5 → (fun r' => b__law_beside_1 r' { nx := fun r' => b__law_beside_3 r' { nx := fun r => Q (.sh .non) r, rt := Q, ex := W }, rt := Q, ex := W }) [some (.mu l1), some (.sh (.int g)), x2, some (.sh (.int b.pos)), some (.sh (.str (wy b.lo))), some (.sh (.int b.num))] := by
    intro b l1 m1 x2 hb lb hB1 hm1
    show b__law_beside_1 _ _
    obtain ⟨p, lo, n⟩ := b
    have lb' : -400000000000 ≤ n ∧ n ≤ 400000000000 := lb
    have fin : ∀ (hand : Bool) (l2 : List D), Bag (m + 6) l2 → (fun r' => b__law_beside_0 r' { nx := fun r' => b__law_beside_3 r' { nx := fun r => Q (.sh .non) r, rt := Q, ex := W }, rt := Q, ex := W }) [some (.mu l2), some (.sh (.int g)), x2, some (.sh (.int p)), some (.sh (.str (wy hand))), some (.sh (.int n))] := by
      intro hand l2 hB2
      show b__law_beside_0 _ _
      have hh := fun (v : Int) l' t (hv : -3 ≤ v - 3 ∧ v - 3 ≤ 3) hB' => h ⟨p, hand, n + v - 3⟩ l' t hb ⟨by show -B09 ≤ _; unfold B09; simp only; omega, by show _ ≤ B09; unfold B09; simp only; omega⟩ hB'
      simp only [Bd.d] at hh
      generalize wy hand = WY at *
      unfold b__law_beside_0
      simp_wf
      refine ⟨rfl, p_draw hB2 (by omega) (by omega) (by omega) fun v l3 t v0 v1 hB3 => ?_⟩
      simp_wf
      exact hh v l3 _ (by omega) (hB3.up (by omega))
    unfold b__law_beside_1
    rw [vsSeq_K]
    generalize (fun r' => b__law_beside_0 r' { nx := fun r' => b__law_beside_3 r' { nx := fun r => Q (.sh .non) r, rt := Q, ex := W }, rt := Q, ex := W }) = N0 at fin ⊢
    simp only at fin ⊢
    cases lo with
    | true =>
      have f1 := fun l2 => fin true l2
      have f2 := fun l2 => fin false l2
      simp only [wy_true, wy_false] at f1 f2 ⊢
      simp_wf
      refine ⟨rfl, p_draw hB1 (by omega) (by omega) (by omega) fun v l2 t v0 v1 hB2 => ?_⟩
      simp_wf
      refine ifS_by (fun c => ?_) fun c => ?_
      · simp_wf
        exact f2 l2 (hB2.up (by omega))
      · simp_wf
        exact f1 l2 (hB2.up (by omega))
    | false =>
      have f1 := fun l2 => fin false l2
      have f2 := fun l2 => fin true l2
      simp only [wy_true, wy_false] at f1 f2 ⊢
      simp_wf
      refine ⟨rfl, p_draw hB1 (by omega) (by omega) (by omega) fun v l2 t v0 v1 hB2 => ?_⟩
      simp_wf
      refine ifS_by (fun c => ?_) fun c => ?_
      · simp_wf
        exact f2 l2 (hB2.up (by omega))
      · simp_wf
        exact f1 l2 (hB2.up (by omega))
  have three : ∀ (a b : Int) (rest : List D) (w : D), 0 ≤ a → a < g → 0 ≤ b → b < g → (fun r' => b__law_beside_3 r' { nx := fun r => Q (.sh .non) r, rt := Q, ex := W }) [some (.mu l), some (.sh (.int g)), some (.sh (.tup (w :: .int a :: .int b :: rest))), none, none, none] := by
    intro a b rest w a0 a1 b0 b1
    show b__law_beside_3 _ _
    have two : ∀ (p : Int) (lo : Bool) (l2 : List D) (x2 : Option SV), 0 ≤ p → p < g → Bag (m + 2) l2 → (fun r' => b__law_beside_2 r' { nx := fun r => Q (.sh .non) r, rt := Q, ex := W }) [some (.mu l2), some (.sh (.int g)), x2, some (.sh (.int p)), some (.sh (.str (wy lo))), none] := by
      intro p lo l2 x2 p0 p1 hB2
      show b__law_beside_2 _ _
      have hh := fun (v : Int) l' t (v1 : -400000000000 < v) (v2 : v < 400000000000) hB' => h ⟨p, lo, v⟩ l' t ⟨p0, p1⟩ ⟨by unfold B09; simp only; omega, by unfold B09; simp only; omega⟩ hB'
      simp only [Bd.d] at hh
      generalize wy lo = WY at *
      unfold b__law_beside_2
      simp_wf
      refine ⟨rfl, p_number hB2 (by omega) fun v l3 t v1 v2 hB3 => ?_⟩
      simp_wf
      exact hh v l3 _ v1 v2 (hB3.up (by omega))
    clear mk
    unfold b__law_beside_3
    rw [vsSeq_K]
    generalize (fun r' => b__law_beside_2 r' { nx := fun r => Q (.sh .non) r, rt := Q, ex := W }) = N2 at two ⊢
    simp_wf
    refine ⟨rfl, p_draw hB (by omega) (by omega) (by omega) fun q l2 t q0 q1 hB2 => ?_⟩
    have e : q = 0 ∨ q = 1 := by omega
    rcases e with rfl | rfl
    · simp_wf
      refine ⟨rfl, p_wayT hB2 (by omega) fun lo l3 t hB3 => ?_⟩
      simp_wf
      exact two a lo l3 _ a0 a1 (hB3.up (by omega))
    · simp_wf
      refine ⟨rfl, p_wayT hB2 (by omega) fun lo l3 t hB3 => ?_⟩
      simp_wf
      exact two b lo l3 _ b0 b1 (hB3.up (by omega))
  unfold d__law_beside
  refine fnRun_K rfl rfl ?_
  show b__law_beside_4 [some (.mu l), some (.sh (.int g)), some (.sh r.d), none, none, none] _
  unfold b__law_beside_4
  rw [vsSeq_K]
  cases r with
  | bound b =>
    have f := fun l1 hB1 => mk b l1 (m + 1) (some (.sh (Rl.bound b).d)) hr lr hB1 (by omega)
    clear mk three
    obtain ⟨p, lo, n⟩ := b
    simp only [Rl.d, Bd.d] at f ⊢
    generalize wy lo = WY at *
    generalize hN : (fun r' => b__law_beside_3 r' { nx := fun r => Q (.sh .non) r, rt := Q, ex := W }) = N3 at f ⊢
    generalize hN1 : b__law_beside_1 = B1 at f ⊢
    simp_wf
    refine ⟨rfl, p_draw hB (by omega) (by omega) (by omega) fun q l2 t q0 q1 hB2 => ?_⟩
    have e : q = 0 := by omega
    subst e
    simp_wf
    exact f l2 hB2
  | either b c =>
    have f := fun l1 hB1 => mk b l1 (m + 1) (some (.sh (Rl.either b c).d)) hr.1 lr.1 hB1 (by omega)
    have f2 := fun l1 hB1 => mk c l1 (m + 1) (some (.sh (Rl.either b c).d)) hr.2 lr.2 hB1 (by omega)
    clear mk three
    obtain ⟨p, lo, n⟩ := b
    obtain ⟨q, hi, k⟩ := c
    simp only [Rl.d, Bd.d] at f f2 ⊢
    generalize wy lo = WY at *
    generalize wy hi = WZ at *
    generalize hN : (fun r' => b__law_beside_3 r' { nx := fun r => Q (.sh .non) r, rt := Q, ex := W }) = N3 at f f2 ⊢
    generalize hN1 : b__law_beside_1 = B1 at f f2 ⊢
    simp_wf
    refine ⟨rfl, p_draw hB (by omega) (by omega) (by omega) fun z l2 t q0 q1 hB2 => ?_⟩
    have e : z = 0 ∨ z = 1 := by omega
    rcases e with rfl | rfl
    · simp_wf
      exact f l2 hB2
    · simp_wf
      exact f2 l2 hB2
  | apart a b n =>
    have t3 := three a b [.int n] (.str "apart") hr.1.1 hr.1.2 hr.2.1.1 hr.2.1.2
    clear mk three
    simp only [Rl.d]
    generalize (fun r' => b__law_beside_3 r' { nx := fun r => Q (.sh .non) r, rt := Q, ex := W }) = N3 at t3 ⊢
    simp_wf
    exact t3
  | sum a b lo n =>
    have t3 := three a b [.str (wy lo), .int n] (.str "sum") hr.1 (by have := hr.2.1; have := hr.2.2; omega) (by have := hr.2.1; have := hr.1; omega) hr.2.2
    clear mk three
    simp only [Rl.d]
    generalize (fun r' => b__law_beside_3 r' { nx := fun r => Q (.sh .non) r, rt := Q, ex := W }) = N3 at t3 ⊢
    generalize wy lo = WY at *
    simp_wf
    exact t3
theorem p_far {g : Int} {l : List D} {m : Int} {Q : QV} {W : WxV} (hB : Bag m l) (hm : m < 900000000000) (hg : 2 ≤ g) (hg5 : g ≤ 5) (h : ∀ (r : Rl) (b : Bd) l' t, r.wf g → r.lim B09 → b.wf g → b.lim B09 → Bag (m + 30) l' → Q (.sh (.tup [r.d, b.d])) (some (.mu l') :: t)) : d__law_far [.mu l, .sh (.int g)] Q W := by
  have sg : ∀ q : Int, 0 ≤ q → q < 2 → 2 * q - 1 = 1 ∨ 2 * q - 1 = -1 := fun q h0 h1 => by omega
  have big : ∀ (s v : Int), (s = 1 ∨ s = -1) → 0 ≤ v → v ≤ 999999999999 → -B09 ≤ s * v ∧ s * v ≤ B09 := fun s v hs h0 h1 => by
    unfold B09
    rcases hs with rfl | rfl <;> omega
  simp_wf
  refine ⟨rfl, p_two hB (by omega) hg (by omega) fun i j l1 t i0 ij j1 hB1 => ?_⟩
  simp_wf
  refine ⟨cpow10 (by omega) (by omega), rfl, p_draw hB1 (by omega) (by omega) (by omega) fun q1 l2 t q10 q11 hB2 => ?_⟩
  simp_wf
  refine ⟨cpow10 (by omega) (by omega), rfl, p_draw hB2 (by omega) (by omega) (by omega) fun q2 l3 t q20 q21 hB3 => ?_⟩
  simp_wf
  refine ⟨rfl, p_draw hB3 (by omega) (by omega) (by omega) fun q3 l4 t q30 q31 hB4 => ?_⟩
  simp_wf
  refine ⟨cmul2, rfl, p_draw hB4 (by omega) (by omega) (by omega) fun q4 l5 t q40 q41 hB5 => ?_⟩
  have s3 := sg q3 q30 q31
  have s4 := sg q4 q40 q41
  generalize hS : 2 * q3 - 1 = S at s3
  generalize hT : 2 * q4 - 1 = T at s4
  simp_wf
  refine ⟨cmul2, ?_⟩
  rw [hT]
  have cS : ∀ v, CMul S v := fun v => .inl (by rcases s3 with rfl | rfl <;> omega)
  have cT : ∀ v, CMul T v := fun v => .inl (by rcases s4 with rfl | rfl <;> omega)
  refine ⟨rfl, p_draw hB5 (by omega) (by omega) (by omega) fun q5 l6 t q50 q51 hB6 => ?_⟩
  have e5 : q5 = 0 ∨ q5 = 1 := by omega
  have b1 := big S (999999999999 - q2) s3 (by omega) (by omega)
  have b2 := big T (999999999999 - q1) s4 (by omega) (by omega)
  have go : ∀ (p : Int) (w : D), 0 ≤ p → p < g → ∀ (lo : Bool) (l7 : List D), Bag (m + 10) l7 → ∀ (x0 : Option SV), x0 = some (.mu l7) → b__law_far_1 [x0, some (.sh (.int g)), some (.sh (.int i)), some (.sh (.int j)), some (.sh (.int (999999999999 - q1))), some (.sh (.int (999999999999 - q2))), some (.sh (.int S)), some (.sh (.int T)), some (.sh (.tup [.int p, .str (wy lo), .int (S * (999999999999 - q2))]))] { nx := fun r => Q (.sh .non) r, rt := Q, ex := W } := by
    intro p w p0 p1 lo l7 hB7 x0 hx0
    subst hx0
    have h1 := fun lo2 l' t hB' => h (.sum i j lo2 (T * (999999999999 - q1))) ⟨p, lo, S * (999999999999 - q2)⟩ l' t ⟨i0, ij, j1⟩ b2 ⟨p0, p1⟩ b1 hB'
    have h2 := fun l' t hB' => h (.apart i j (T * (999999999999 - q1))) ⟨p, lo, S * (999999999999 - q2)⟩ l' t ⟨⟨i0, by omega⟩, ⟨by omega, j1⟩, by omega⟩ b2 ⟨p0, p1⟩ b1 hB'
    simp only [Rl.d, Bd.d] at h1 h2
    generalize wy lo = WY at *
    unfold b__law_far_1 b__law_far_0
    simp_wf
    refine ⟨rfl, p_draw hB7 (by omega) (by omega) (by omega) fun q6 l8 t q60 q61 hB8 => ?_⟩
    simp_wf
    refine ifS_by (fun c => ?_) fun c => ?_
    · simp_wf
      refine ⟨rfl, p_wayT hB8 (by omega) fun lo2 l9 t hB9 => ?_⟩
      have hh := h1 lo2 l9
      generalize wy lo2 = WZ at *
      simp_wf
      exact ⟨cT _, hh _ (hB9.up (by omega))⟩
    · simp_wf
      exact ⟨cT _, h2 l8 _ (hB8.up (by omega))⟩
  rcases e5 with rfl | rfl
  · simp_wf
    refine ⟨rfl, p_wayT hB6 (by omega) fun lo l7 t hB7 => ?_⟩
    have G := go i (.int 0) i0 (by omega) lo l7 (hB7.up (by omega)) _ rfl
    generalize wy lo = WY at *
    generalize b__law_far_1 = B1 at *
    simp_wf
    exact ⟨cS _, G⟩
  · simp_wf
    refine ⟨rfl, p_wayT hB6 (by omega) fun lo l7 t hB7 => ?_⟩
    have G := go j (.int 0) (by omega) j1 lo l7 (hB7.up (by omega)) _ rfl
    generalize wy lo = WY at *
    generalize b__law_far_1 = B1 at *
    simp_wf
    exact ⟨cS _, G⟩

theorem p_lcontrary {b : Bd} {Q : QV} {W : WxV} (h : ∀ t, Q (.sh b.opp.d) t) : d__law_contrary [.sh b.d] Q W := by
  obtain ⟨p, lo, n⟩ := b
  cases lo
  · simp only [Bd.d, Bd.opp, wy_false, wy_true, Bool.not_false, Bool.false_eq_true, if_false] at h ⊢
    simp_wf
    exact h _
  · simp only [Bd.d, Bd.opp, wy_true, wy_false, Bool.not_true, if_true] at h ⊢
    simp_wf
    exact h _

theorem either_mem {b c m x : Bd} (hx : x ∈ forcedS (.either b c) m) : x = c ∨ x = b := by
  have key : ∀ (L : List Bd) (P : Prop) [Decidable P], (∀ y ∈ L, y = c) → x ∈ (if P then L ++ [b] else L) → x = c ∨ x = b := fun L P _ hL h => by
    split at h
    · rcases List.mem_append.mp h with h | h
      · exact .inl (hL x h)
      · exact .inr (List.mem_singleton.mp h)
    · exact .inl (hL x h)
  refine key (if m.against b = true then [c] else []) _ (fun y hy => ?_) hx
  split at hy
  · exact List.mem_singleton.mp hy
  · exact absurd hy List.not_mem_nil
theorem forcedS_lim {r : Rl} {m : Bd} {B : Int} (hB : 0 ≤ B) (lr : r.lim B) (lm : m.lim B) : ∀ b ∈ forcedS r m, b.lim (2 * B) := by
  intro x hx0
  have hx := hx0
  unfold forcedS at hx
  have one : ∀ {y z : Bd} {P : Prop} [Decidable P], (P → z.lim (2 * B)) → y ∈ (if P then [z] else []) → y.lim (2 * B) := fun {y z P} _ hz hy => by
    split at hy
    · next c => rw [List.mem_singleton.mp hy]; exact hz c
    · exact absurd hy List.not_mem_nil
  unfold Bd.lim at *
  cases r with
  | bound b => exact absurd hx List.not_mem_nil
  | apart a b n =>
    have lr' : -B ≤ n ∧ n ≤ B := lr
    simp only at hx
    split at hx
    · exact one (fun _ => ⟨by simp only; omega, by simp only; omega⟩) hx
    · exact one (fun _ => ⟨by simp only; omega, by simp only; omega⟩) hx
  | sum a b lo n =>
    have lr' : -B ≤ n ∧ n ≤ B := lr
    simp only at hx
    split at hx
    · exact absurd hx List.not_mem_nil
    · split at hx
      · rw [List.mem_singleton.mp hx]; exact ⟨by simp only; omega, by simp only; omega⟩
      · exact one (fun _ => ⟨by simp only; omega, by simp only; omega⟩) hx
  | either b c =>
    have lb : -B ≤ b.num ∧ b.num ≤ B := lr.1
    have lc : -B ≤ c.num ∧ c.num ≤ B := lr.2
    have sub : x = c ∨ x = b := either_mem hx0
    rcases sub with rfl | rfl <;> omega
theorem forcedO_few {r : Rl} {m : Bd} : (forcedO r m).length ≤ 2 := by
  unfold forcedO
  have len := forcedS_few (r := r) (m := m)
  generalize forcedS r m = F at *
  match F, len with
  | [], _ => simp
  | [a], _ => simp
  | [a, b], _ => simp only; split <;> simp
theorem sm_bd9 {b : Bd} {B : Int} (h : b.lim B) (hB : B < 10 ^ 90) (hp : 0 ≤ b.pos ∧ b.pos < 1000) : Sm 2 (3 * (101 + 2) + 3) b.d := sm_tup (k := 1) (n := 101) (fun d hd => by
  unfold Bd.lim at h
  simp only [List.mem_cons, List.not_mem_nil, or_false] at hd
  rcases hd with rfl | rfl | rfl
  · exact sm_int (by omega) (by omega)
  · cases b.lo
    · exact (sm_str (by decide +kernel)).mono (by omega) (by decide +kernel)
    · exact (sm_str (by decide +kernel)).mono (by omega) (by decide +kernel)
  · exact sm_int (by omega) (by omega)) (by simp)
theorem sm_bds9 {bs : List Bd} {B : Int} (h : ∀ b ∈ bs, b.lim B ∧ 0 ≤ b.pos ∧ b.pos < 1000) (hB : B < 10 ^ 90) (hl : bs.length ≤ 40) : Sm 3 (40 * (312 + 2) + 2) (D.lst (bs.map Bd.d)) := sm_lst (k := 2) (n := 312) (fun d hd => by
  obtain ⟨b, hb, rfl⟩ := List.mem_map.mp hd
  exact sm_bd9 (h b hb).1 hB (h b hb).2) (by rw [List.length_map]; exact hl)
theorem forcedS_wf {g : Int} {r : Rl} {m : Bd} (hr : r.wf g) (hm : m.wf g) : ∀ b ∈ forcedS r m, b.wf g := by
  intro x hx0
  have hx := hx0
  unfold forcedS at hx
  cases r with
  | bound b => exact absurd hx List.not_mem_nil
  | apart a b n =>
    obtain ⟨⟨a0, a1⟩, ⟨b0, b1⟩, _⟩ := hr
    simp only at hx
    split at hx
    · split at hx
      · rw [List.mem_singleton.mp hx]; exact ⟨b0, b1⟩
      · exact absurd hx List.not_mem_nil
    · split at hx
      · rw [List.mem_singleton.mp hx]; exact ⟨a0, a1⟩
      · exact absurd hx List.not_mem_nil
  | sum a b lo n =>
    obtain ⟨a0, ab, b1⟩ := hr
    simp only at hx
    split at hx
    · exact absurd hx List.not_mem_nil
    · split at hx
      · rw [List.mem_singleton.mp hx]; exact ⟨by show 0 ≤ b; omega, b1⟩
      · split at hx
        · rw [List.mem_singleton.mp hx]; exact ⟨a0, by show a < g; omega⟩
        · exact absurd hx List.not_mem_nil
  | either b c =>
    have sub : x = c ∨ x = b := either_mem hx0
    rcases sub with rfl | rfl
    · exact hr.2
    · exact hr.1
theorem double_opp {b : Bd} : forcedO (.either b b) b.opp = [b] := by
  have k : b.opp.against b = true := by
    obtain ⟨p, lo, n⟩ := b
    unfold Bd.against Bd.opp
    cases lo <;> simp <;> omega
  have h : has [b] b = true := has_iff.mpr List.mem_cons_self
  have e : forcedS (.either b b) b.opp = [b] := by
    unfold forcedS
    simp [k, h]
  unfold forcedO
  rw [e]
theorem double_self {b : Bd} : forcedO (.either b b) b = [] := by
  have k : b.against b = false := by
    unfold Bd.against
    simp
  have e : forcedS (.either b b) b = [] := by
    unfold forcedS
    simp [k]
  unfold forcedO
  rw [e]
section
variable {g : Nat} {r : Rl} {m : Bd}
theorem p_n4 {l : List D} {x0 x1 x4 x6 x8 x9 x10 : Option SV} {N : Vx.Env → Prop} {rt : QV} {bk : Vx.Env → Prop} {W : WxV} (hB : Bag 1000 l) (hg1 : 1 ≤ g) (hg5 : g ≤ 5) (hr : r.wf g)
    (h0 : ∀ b, r = .bound b → (forcedO r m) = []) (hN : ∀ ys : Vx.Env, ys.length = 10 → N (x0 :: ys)) :
    b_law_4 [x0, x1, some (.ow l), some (.sh (.int (g : Int))), x4, some (.sh r.d), x6, some (.ow ((forcedO r m).map Bd.d)), x8, x9, x10] { nx := N, rt := rt, bk := bk, ct := N, ex := W } := by
  have e3 : ∀ (b : Bd) l', b.wf g → b.lim 400000000000 → (fun q => b_law_3 q { nx := N, rt := rt, bk := bk, ct := N, ex := W }) [x0, x1, some (.ow l'), some (.sh (.int (g : Int))), x4, some (.sh r.d), some (.sh b.d), some (.ow ((forcedO r m).map Bd.d)), x8, x9, x10] := by
    intro b l' hb lb
    show b_law_3 _ _
    have wfE : (Rl.either b b).wf g := ⟨hb, hb⟩
    have wfO : b.opp.wf g := hb
    have pc := fun (Q' : QV) (W' : WxV) hq => p_lcontrary (b := b) (Q := Q') (W := W') hq
    have pf1 := fun (Q' : QV) (W' : WxV) hq => p_forced (r := .either b b) (m := b.opp) (Q := Q') (W := W') (by omega) (by omega) wfE wfO hq
    have pf2 := fun (Q' : QV) (W' : WxV) hq => p_forced (r := .either b b) (m := b) (Q := Q') (W := W') (by omega) (by omega) wfE hb hq
    rw [double_opp] at pf1
    rw [double_self] at pf2
    have okF := bds_ok (forcedO r m)
    have ok0 := bds_ok []
    have rok : (D.lst [.lst [b.d], .lst []]).rok := by
      have hp : 0 ≤ b.pos ∧ b.pos < 1000 := ⟨hb.1, by have := hb.2; omega⟩
      have s1 := sm_bds9 (bs := [b]) (B := 400000000000) (fun x hx => by rw [List.mem_singleton.mp hx]; exact ⟨lb, hp⟩) (by omega) (by simp)
      have s2 := sm_bds9 (bs := []) (B := 400000000000) (fun x hx => absurd hx List.not_mem_nil) (by omega) (by simp)
      exact (sm_lst (k := 3) (n := 12562) (m := 2) (ds := [.lst [b.d], .lst []]) (fun d hd => by
        simp only [List.mem_cons, List.not_mem_nil, or_false] at hd
        rcases hd with rfl | rfl
        · exact s1
        · exact s2) (by simp)).rok (by omega) (by omega)
    have z0 : (∃ c, r = .bound c) → forcedO r m = [] := fun ⟨c, hc⟩ => h0 c hc
    have fin := fun ys hy => hN ys hy
    simp only [Rl.d, List.map_cons, List.map_nil] at pf1 pf2 ok0
    have e0 : ∀ x9 x10, b_law_0 [x0, x1, some (.ow l'), some (.sh (.int (g : Int))), x4, some (.sh r.d), some (.sh b.d), some (.ow ((forcedO r m).map Bd.d)), x8, x9, x10] { nx := N, rt := rt, bk := bk, ct := N, ex := W } := by
      intro x9 x10
      have nn := hN [x1, some (.ow l'), some (.sh (.int (g : Int))), x4, some (.sh r.d), some (.sh b.d), some (.ow ((forcedO r m).map Bd.d)), x8, x9, x10] rfl
      clear pf1 pf2 pc fin
      generalize b.d = BD at *
      unfold b_law_0
      cases r with
      | bound c =>
        rw [z0 ⟨c, rfl⟩] at nn ⊢
        simp only [Rl.d, List.map_nil] at nn ⊢
        generalize c.d = CD at *
        simp_wf
        refine ⟨ok0, ok0, ?_⟩
        rw [show D.eqv (.lst []) (.lst []) = true from rfl]
        simp_wf
        exact nn
      | apart a b n =>
        generalize (forcedO (.apart a b n) m).map Bd.d = FD at *
        simp only [Rl.d] at nn ⊢
        simp_wf
        exact nn
      | sum a b lo n =>
        generalize (forcedO (.sum a b lo n) m).map Bd.d = FD at *
        simp only [Rl.d] at nn ⊢
        generalize wy lo = WY at *
        simp_wf
        exact nn
      | either b c =>
        generalize (forcedO (.either b c) m).map Bd.d = FD at *
        simp only [Rl.d] at nn ⊢
        generalize b.d = BD at *
        generalize c.d = CD at *
        simp_wf
        exact nn
    have e0' : ∀ x9 x10, (fun q => b_law_0 q { nx := N, rt := rt, bk := bk, ct := N, ex := W }) [x0, x1, some (.ow l'), some (.sh (.int (g : Int))), x4, some (.sh r.d), some (.sh b.d), some (.ow ((forcedO r m).map Bd.d)), x8, x9, x10] := fun x9 x10 => e0 x9 x10
    clear e0
    unfold b_law_3 b_law_2 b_law_1
    rw [vsSeq_K]
    simp only [vsSeq_K]
    generalize (fun q => b_law_0 q { nx := N, rt := rt, bk := bk, ct := N, ex := W }) = N0 at e0' ⊢
    generalize (forcedO r m).map Bd.d = FD at *
    generalize r.d = RD at *
    generalize b.opp.d = OD at *
    generalize b.d = BD at *
    simp_wf
    refine ⟨rfl, pc _ _ fun t => ?_⟩
    simp_wf
    refine ⟨rfl, pf1 _ _ fun t => ?_⟩
    simp_wf
    refine ⟨rfl, pf2 _ _ fun t => ?_⟩
    simp_wf
    refine ⟨rok, rok, ?_⟩
    simp_wf
    exact e0' _ _
  unfold b_law_4
  rw [vsSeq_K]
  generalize (fun q => b_law_3 q { nx := N, rt := rt, bk := bk, ct := N, ex := W }) = N3 at e3 ⊢
  generalize (forcedO r m).map Bd.d = FD at *
  generalize r.d = RD at *
  simp_wf
  refine ⟨rfl, p_markT hB (by omega) (by omega) (by omega) fun b l2 t hb b1 b2 hB2 => ?_⟩
  have e := e3 b l2 hb ⟨by omega, by omega⟩
  generalize b.d = BD at *
  simp_wf
  exact e
theorem p_n9 {l : List D} {x0 x1 x4 x7 x8 x9 x10 : Option SV} {N : Vx.Env → Prop} {rt : QV} {bk : Vx.Env → Prop} {W : WxV} (hB : Bag 1000 l) (hg1 : 1 ≤ g) (hg5 : g ≤ 5) (hr : r.wf g) (lr : r.lim B09) (hm : m.wf g) (lm : m.lim B09) (hN : ∀ ys : Vx.Env, ys.length = 10 → N (x0 :: ys)) :
    b_law_9 [x0, x1, some (.ow l), some (.sh (.int (g : Int))), x4, some (.sh r.d), some (.sh m.d), x7, x8, x9, x10] { nx := N, rt := rt, bk := bk, ct := N, ex := W } := by
  have e4 : ∀ x8, (fun q => b_law_4 q { nx := N, rt := rt, bk := bk, ct := N, ex := W }) [x0, x1, some (.ow l), some (.sh (.int (g : Int))), x4, some (.sh r.d), some (.sh m.d), some (.ow ((forcedO r m).map Bd.d)), x8, x9, x10] := fun x8 => by
    show b_law_4 _ _
    exact p_n4 hB hg1 hg5 hr (fun b hb => by rw [hb]; rfl) hN
  have pl := fun (Q' : QV) (W' : WxV) hq => p_law_forced (g := g) (r := r) (m := m) (Q := Q') (W := W') hr hq
  have pf := fun (Q' : QV) (W' : WxV) hq => p_forced (r := r) (m := m) (Q := Q') (W := W') (by omega) (by omega) hr hm hq
  have rok : (D.lst ((forcedO r m).map Bd.d)).rok := (sm_bds9 (B := 2 * B09) (fun b hb => ⟨forcedS_lim (by unfold B09; omega) lr lm b (forcedO_mem.mp hb), (forcedS_wf hr hm b (forcedO_mem.mp hb)).1, by have := (forcedS_wf hr hm b (forcedO_mem.mp hb)).2; omega⟩) (by unfold B09; omega) (by have := forcedO_few (r := r) (m := m); omega)).rok (by omega) (by omega)
  have few : ((forcedO r m).map Bd.d).length ≤ 2 := by rw [List.length_map]; exact forcedO_few
  unfold b_law_9 b_law_8 b_law_7 b_law_6 b_law_5
  rw [vsSeq_K]
  simp only [vsSeq_K]
  generalize (fun q => b_law_4 q { nx := N, rt := rt, bk := bk, ct := N, ex := W }) = N4 at e4 ⊢
  generalize (forcedO r m).map Bd.d = FD at *
  generalize r.d = RD at *
  generalize m.d = MD at *
  simp_wf
  refine ⟨rfl, pl _ _ fun t => ?_⟩
  simp_wf
  refine ⟨rfl, pf _ _ fun t => ?_⟩
  simp_wf
  refine ⟨rok, rok, ?_⟩
  simp_wf
  refine ⟨by omega, ?_⟩
  refine ⟨rfl, pf _ _ fun t => ?_⟩
  simp_wf
  refine ⟨rok, rok, ?_⟩
  simp_wf
  exact e4 _
end

theorem p_n10 {g : Nat} {r : Rl} {m : Bd} {l : List D} {x0 x1 x4 x7 x8 x9 x10 : Option SV} {N : Vx.Env → Prop} {rt : QV} {bk : Vx.Env → Prop} {W : WxV} (hB : Bag 200 l) (hg1 : 1 ≤ g) (hg5 : g ≤ 5) (hr : r.wf g) (lr : r.lim B09) (hm : m.wf g) (lm : m.lim B09) (hN : ∀ ys : Vx.Env, ys.length = 10 → N (x0 :: ys)) :
    b_law_10 [x0, x1, some (.ow l), some (.sh (.int (g : Int))), x4, some (.sh r.d), some (.sh m.d), x7, x8, x9, x10] { nx := N, rt := rt, bk := bk, ct := N, ex := W } := by
  have e9 : ∀ (r : Rl) (m : Bd) l', r.wf g → r.lim B09 → m.wf g → m.lim B09 → Bag 1000 l' → (fun q => b_law_9 q { nx := N, rt := rt, bk := bk, ct := N, ex := W }) [x0, x1, some (.ow l'), some (.sh (.int (g : Int))), x4, some (.sh r.d), some (.sh m.d), x7, x8, x9, x10] := fun r m l' hr lr hm lm hB' => by
    show b_law_9 _ _
    exact p_n9 hB' hg1 hg5 hr lr hm lm hN
  have e9s := fun l' => e9 r m l' hr lr hm lm
  unfold b_law_10
  rw [vsSeq_K]
  generalize (fun q => b_law_9 q { nx := N, rt := rt, bk := bk, ct := N, ex := W }) = N9 at e9 e9s ⊢
  generalize r.d = RD at *
  generalize m.d = MD at *
  by_cases c : g = 1
  · have c' : ¬ 1 < ((g : Nat) : Int) := by omega
    simp_wf
    rw [decide_eq_false c']
    simp_wf
    exact e9s l (hB.up (by omega))
  · have c' : 1 < ((g : Nat) : Int) := by omega
    have pf := fun (l : List D) (hB : Bag 201 l) (Q' : QV) (W' : WxV) hq => p_far (g := (g : Int)) (Q := Q') (W := W') hB (by omega) (by omega) (by omega) hq
    simp_wf
    rw [decide_eq_true c']
    simp_wf
    refine ⟨rfl, p_draw hB (by omega) (by omega) (by omega) fun q l2 t q0 q1 hB2 => ?_⟩
    simp_wf
    refine ifS_by (fun c => ?_) fun c => ?_
    · simp_wf
      refine ⟨rfl, pf l2 (hB2.up (by omega)) _ _ fun r' m' l3 t hr' lr' hm' lm' hB3 => ?_⟩
      have e := e9 r' m' l3 hr' lr' hm' lm' (hB3.up (by omega))
      generalize r'.d = R2 at *
      generalize m'.d = M2 at *
      simp_wf
      exact e
    · simp_wf
      exact e9s l2 (hB2.up (by omega))
theorem p_cell {n : Int} {x0 x2 x3 x4 x5 x6 x7 x8 x9 x10 : Option SV} {N : Vx.Env → Prop} {rt : QV} {bk : Vx.Env → Prop} {W : WxV}
    (hN : ∀ ys : Vx.Env, ys.length = 10 → N (x0 :: ys)) :
    b_law_15 [x0, some (.sh (.int n)), x2, x3, x4, x5, x6, x7, x8, x9, x10] { nx := N, rt := rt, bk := bk, ct := N, ex := W } := by
  have e13 : ∀ (g : Nat) (k : Int) l, 1 ≤ g → g ≤ 5 → Bag 10 l → (fun q => b_law_13 q { nx := N, rt := rt, bk := bk, ct := N, ex := W }) [x0, some (.sh (.int n)), some (.ow l), some (.sh (.int (g : Int))), some (.sh (.int k)), x5, x6, x7, x8, x9, x10] := by
    intro g k l hg1 hg5 hB
    show b_law_13 _ _
    have e10 : ∀ (r : Rl) (m : Bd) l', r.wf g → r.lim 400000000000 → m.wf g → m.lim B09 → Bag 200 l' → (fun q => b_law_10 q { nx := N, rt := rt, bk := bk, ct := N, ex := W }) [x0, some (.sh (.int n)), some (.ow l'), some (.sh (.int (g : Int))), some (.sh (.int k)), some (.sh r.d), some (.sh m.d), x7, x8, x9, x10] := fun r m l' hr lr hm lm hB' => by
      show b_law_10 _ _
      exact p_n10 hB' hg1 hg5 hr (lr.up (by unfold B09; omega)) hm lm hN
    have pb := fun (r : Rl) (hr : r.wf g) (lr : r.lim 400000000000) (l : List D) (hB : Bag 100 l) (Q' : QV) (W' : WxV) hq => p_beside (g := (g : Int)) (r := r) (Q := Q') (W := W') hB (by omega) hr lr hq
    unfold b_law_13 b_law_12 b_law_11
    rw [vsSeq_K]
    simp only [vsSeq_K]
    generalize (fun q => b_law_10 q { nx := N, rt := rt, bk := bk, ct := N, ex := W }) = N10 at e10 ⊢
    simp_wf
    refine ⟨rfl, p_termB hB (by omega) (by omega) (by omega) fun r l1 t hr lr hB1 => ?_⟩
    have pb1 := pb r hr lr
    have e10r := fun m l' hm lm => e10 r m l' hr lr hm lm
    generalize r.d = RD at *
    simp_wf
    refine ⟨rfl, p_markT hB1 (by omega) (by omega) (by omega) fun m l2 t hm m1 m2 hB2 => ?_⟩
    have em := e10r m l2 hm ⟨by unfold B09; omega, by unfold B09; omega⟩ (hB2.up (by omega))
    generalize m.d = MD at *
    simp_wf
    refine ifS_by (fun c => ?_) fun c => ?_
    · simp_wf
      refine ⟨rfl, pb1 l2 (hB2.up (by omega)) _ _ fun m' l3 t hm' lm' hB3 => ?_⟩
      have e := e10r m' l3 hm' lm' (hB3.up (by omega))
      generalize m'.d = M2 at *
      simp_wf
      exact e
    · simp_wf
      exact em
  have e14 : ∀ l, Bag 0 l → (fun q => b_law_14 q { nx := N, rt := rt, bk := bk, ct := N, ex := W }) [x0, some (.sh (.int n)), some (.ow l), x3, x4, x5, x6, x7, x8, x9, x10] := by
    intro l hB
    show b_law_14 _ _
    unfold b_law_14
    rw [vsSeq_K]
    generalize (fun q => b_law_13 q { nx := N, rt := rt, bk := bk, ct := N, ex := W }) = N13 at e13 ⊢
    simp_wf
    refine ⟨rfl, p_draw hB (by omega) (by omega) (by omega) fun q l1 t q0 q1 hB1 => ?_⟩
    simp_wf
    refine ⟨rfl, p_draw hB1 (by omega) (by omega) (by omega) fun k l2 t k0 k1 hB2 => ?_⟩
    obtain ⟨g, hg⟩ := Int.eq_ofNat_of_zero_le (show 0 ≤ 1 + q by omega)
    have e := e13 g k l2 (by omega) (by omega) (hB2.up (by omega))
    simp_wf
    rw [hg]
    exact e
  unfold b_law_15
  rw [vsSeq_K]
  generalize (fun q => b_law_14 q { nx := N, rt := rt, bk := bk, ct := N, ex := W }) = N14 at e14 ⊢
  simp_wf
  refine ⟨rfl, p_bag fun l t hB => ?_⟩
  have e := e14 l hB
  simp_wf
  exact e
theorem p_law : claim := by
  intro ns hl
  simp_wf
  refine ⟨by rw [List.length_map]; omega, ?_⟩
  refine forL_ind (fun rest r => (∀ d ∈ rest, ∃ n : Int, d = .int n) ∧ ∃ ys : Vx.Env, ys.length = 10 ∧ r = some (.bo (ns.map .int)) :: ys) (fun d rest r N hI hN => ?_) (fun r hI => ?_) _ _ ⟨fun d hd => ?_, _, rfl, rfl⟩
  · obtain ⟨hd, ys, hy, rfl⟩ := hI
    obtain ⟨n, rfl⟩ := hd d List.mem_cons_self
    match ys, hy with
    | [y1, y2, y3, y4, y5, y6, y7, y8, y9, y10], _ =>
      exact p_cell fun ys hy => hN _ ⟨fun d hd' => hd d (List.mem_cons_of_mem _ hd'), ys, hy, rfl⟩
  · exact trivial
  · rcases List.mem_cons.mp hd with rfl | hd
    · exact ⟨_, rfl⟩
    · obtain ⟨n, _, rfl⟩ := List.mem_map.mp hd
      exact ⟨n, rfl⟩


end Q9
open PySem PySem.W PySem.Calls PyProof.Rows
theorem PySem.Challenge.cw_middlegauges_k09_forced_bounds_holds : PySem.Challenge.rw_middlegauges_k09_forced_bounds.Holds := by
  w_on; o_law
  refine HandSHeadRun.head_any (r := OpenLaw.row PySem.Challenge.rw_middlegauges_k09_forced_bounds) (q := view (OpenLaw.row PySem.Challenge.rw_middlegauges_k09_forced_bounds).prog [38]) (H := Q9.hkx) (ob := Q9.obx) (M := 60000) (loose := Q9.looseA) (d := HandSHeadRun.topDef (OpenLaw.row PySem.Challenge.rw_middlegauges_k09_forced_bounds).prog 38) (kwd := []) Q9.obx_eq
    (by kernel_rfl) (fun s => by kernel_rfl) Q9.ran (by kernel_rfl) (by kernel_rfl) (by kernel_rfl) (by rfl) (by first | assumption | decide +kernel) (by decide +kernel) ⟨rfl, rfl, rfl, rfl, rfl, by decide +kernel⟩ ?hw ?hc
  case hw => w_witness2
  case hc =>
    refine Vx.walk_ofG (l := PySem.Challenge.rw_middlegauges_k09_forced_bounds) (n := 63) (k := 7) (x := "script") Q9.d_law rfl (by decide) (by kernel_rfl) ⟨rfl, by decide, by decide⟩ Q9.p_law ?F
    intro w mg fa h Y ns hmg0
    obtain ⟨K, inK, c⟩ := Y
    have hmg : mg ("law" : PySem.Str) = some (.ref fa) := by
      have e : (HandSHeadRun.topDef (OpenLaw.row PySem.Challenge.rw_middlegauges_k09_forced_bounds).prog 38).name = ("law" : PySem.Str) := by kernel_rfl
      rw [← e]
      exact hmg0
    obtain ⟨fd, bd, hF⟩ := Q9.law_facts (P := (PySem.Challenge.rw_middlegauges_k09_forced_bounds).prog) (w := w) inK ns hmg c
    exact ⟨K, fd, inK, bd, hF⟩
