import PyProof.Rows.All
import Wide.All
import OpenK.AllK
import Wide.FinOn
import HandS.ForMost
import HandS.ForExc
import HandS.Zip
import HandS.TupAny
import HandS.IsInst
import HandS.Wide
import HandS.Style
import HandS.EndBits
import HandS.Codes
import KE.OsSort
import HandS.SortInts
import KE.GoesNew
import HandS.Flow
import PyProof.FactsAll.list_3
import HandS.HotCalls
import HandS.ExcIs
import KE.KDictZip
import PyProof.CollectIter
import KE.DataMinMax
import KE.SortData
import HandS.SetFor
import KE.OsSortAny
import KE.OsSorts
import KE.KRevSl
import HandS.Dict
import HandS.Conv
import HandS.Text
import HandS.StrMore
import HandS.DictTup
import HandS.SortOrd
import HandS.SortKw
import HandS.More
import HandS.Iter
import KE.KDictList
import HandS.Call
import HandS.ExcOwn
import HandS.TryOnly
import KE.DatumOrd
import PySem.Challenge.RW_stepline_k11_whole_tracks
set_option Elab.async false
set_option linter.all false
set_option maxRecDepth 100000
set_option maxHeartbeats 4000000
set_option autoImplicit false
/-! The data layer: each construct's meaning as an executable function over plain data (PyData), no heap. -/
namespace DL
open PySem PySem.Spec PyProof.Rows L2

abbrev D := PyData
abbrev Fr := PySem.W.Frag
def keyD : Key → D
  | .inl i => .int i
  | .inr x => .str x

/-! ### heaps that grow -/
def Ex (H H' : Hp) : Prop := ∀ a o, H a = some o → H' a = some o
theorem Ex.refl (H : Hp) : Ex H H := fun _ _ h => h
theorem Ex.trans {H H1 H2 : Hp} (a : Ex H H1) (b : Ex H1 H2) : Ex H H2 := fun x o h => b x o (a x o h)
theorem Ex.new {H : Hp} {p : Addr} {o : HO} (h : H p = none) : Ex H (upd H p o) := fun a u e => by
  rw [upd_ne (ne_of_none e h)]; exact e
theorem Ex.free {H H' : Hp} {p : Addr} (e : Ex H H') (h : H' p = none) : H p = none := by
  cases h1 : H p with
  | none => rfl
  | some o => rw [e p o h1] at h; cases h
theorem Ex.rd {H H' : Hp} {a : Addr} {u : HO} (e : Ex H H') (h : Rd H a u) : Rd H' a u := by
  rcases h with h | ⟨o, h⟩
  · exact Or.inl (e a _ h)
  · exact Or.inr ⟨o, e a _ h⟩
theorem Ex.sqL {K : Fr} {H H' : Hp} {a : Addr} {xs : List V} (e : Ex H H') (h : SqL K H a xs) : SqL K H' a xs := by
  rcases h with h | h
  · exact Or.inl (e.rd h)
  · exact Or.inr h
theorem Ex.sqT {K : Fr} {H H' : Hp} {a : Addr} {xs : List V} (e : Ex H H') (h : SqT K H a xs) : SqT K H' a xs := by
  rcases h with h | h
  · exact Or.inl (e.rd h)
  · exact Or.inr h
theorem sqL_of {K : Fr} {H : Hp} {a : Addr} {xs : List V} (h : H a = some (.lst xs)) : SqL K H a xs := Or.inl (Or.inl h)
theorem sqT_of {K : Fr} {H : Hp} {a : Addr} {xs : List V} (h : H a = some (.tup xs)) : SqT K H a xs := Or.inl (Or.inl h)

/-- a list that is never written: the script -/
def SqF (K : Fr) (F : Hp) (a : Addr) (xs : List V) : Prop := (∃ o, F a = some (.frz o (.lst xs))) ∨
  ∃ (o : Obj) (its : Array Value) (n : Nat), K.lookup a = some o ∧ o.cls = .type "list" ∧ o.dict = none ∧ o.data = .seq its n ∧ its.size ≤ sizeLine ∧ Vals xs its.toList
theorem SqF.sqL {K : Fr} {F : Hp} {a : Addr} {xs : List V} (h : SqF K F a xs) : SqL K F a xs := by
  rcases h with ⟨o, h⟩ | h
  · exact .inl (.inr ⟨o, h⟩)
  · exact .inr h
theorem Ex.sqF {K : Fr} {H H' : Hp} {a : Addr} {xs : List V} (e : Ex H H') (h : SqF K H a xs) : SqF K H' a xs := by
  rcases h with ⟨o, h⟩ | h
  · exact .inl ⟨o, e a _ h⟩
  · exact .inr h

/-! ### what a value stands for -/
mutual
inductive Rep (K : Fr) (F : Hp) : V → D → Prop
  | non : Rep K F .non .none
  | bl (b : Bool) : Rep K F (.bl b) (.bool b)
  | int (i : Int) : Rep K F (.int i) (.int i)
  | str (x : Str) : Rep K F (.str x) (.str x)
  | lst {a : Addr} {vs : List V} {ds : List D} (h : F a = some (.lst vs)) (r : RepL K F vs ds) : Rep K F (.ref a) (.list ds)
  | tup {a : Addr} {vs : List V} {ds : List D} (h : SqT K F a vs) (r : RepL K F vs ds) : Rep K F (.ref a) (.tuple ds)
  | dic {a : Addr} {kvs : List (Key × V)} {es : List (D × D)} (h : F a = some (.dK kvs)) (r : RepK K F kvs es) : Rep K F (.ref a) (.dict es)
inductive RepL (K : Fr) (F : Hp) : List V → List D → Prop
  | nil : RepL K F [] []
  | cons {v : V} {d : D} {vs : List V} {ds : List D} (h : Rep K F v d) (r : RepL K F vs ds) : RepL K F (v :: vs) (d :: ds)
inductive RepK (K : Fr) (F : Hp) : List (Key × V) → List (D × D) → Prop
  | nil : RepK K F [] []
  | cons {k : Key} {v : V} {d : D} {kvs : List (Key × V)} {es : List (D × D)} (h : Rep K F v d) (r : RepK K F kvs es) : RepK K F ((k, v) :: kvs) ((keyD k, d) :: es)
end
mutual
theorem Rep.mono {K : Fr} {F F' : Hp} (e : Ex F F') : ∀ {v : V} {d : D}, Rep K F v d → Rep K F' v d
  | _, _, .non => .non
  | _, _, .bl b => .bl b
  | _, _, .int i => .int i
  | _, _, .str x => .str x
  | _, _, .lst h r => .lst (e _ _ h) (RepL.mono e r)
  | _, _, .tup h r => .tup (e.sqT h) (RepL.mono e r)
  | _, _, .dic h r => .dic (e _ _ h) (RepK.mono e r)
theorem RepL.mono {K : Fr} {F F' : Hp} (e : Ex F F') : ∀ {vs : List V} {ds : List D}, RepL K F vs ds → RepL K F' vs ds
  | _, _, .nil => .nil
  | _, _, .cons h r => .cons (Rep.mono e h) (RepL.mono e r)
theorem RepK.mono {K : Fr} {F F' : Hp} (e : Ex F F') : ∀ {vs : List (Key × V)} {ds : List (D × D)}, RepK K F vs ds → RepK K F' vs ds
  | _, _, .nil => .nil
  | _, _, .cons h r => .cons (Rep.mono e h) (RepK.mono e r)
end
section
variable {K : Fr} {F : Hp}
theorem RepL.length : ∀ {vs : List V} {ds : List D}, RepL K F vs ds → vs.length = ds.length
  | _, _, .nil => rfl
  | _, _, .cons _ r => congrArg (· + 1) r.length
theorem RepL.get : ∀ {vs : List V} {ds : List D} {i : Nat} {d : D}, RepL K F vs ds → ds[i]? = some d → ∃ v, vs[i]? = some v ∧ Rep K F v d
  | _, _, _, _, .nil, e => by simp at e
  | _, _, 0, _, .cons h _, e => by simp at e; subst e; exact ⟨_, rfl, h⟩
  | _, _, i + 1, d, .cons _ r, e => by
    obtain ⟨v, h1, h2⟩ := RepL.get (i := i) (d := d) r (by simpa using e)
    exact ⟨v, by simpa using h1, h2⟩
theorem RepL.getV : ∀ {vs : List V} {ds : List D} {i : Nat} {v : V}, RepL K F vs ds → vs[i]? = some v → ∃ d, ds[i]? = some d ∧ Rep K F v d
  | _, _, _, _, .nil, e => by simp at e
  | _, _, 0, _, .cons h _, e => by simp at e; subst e; exact ⟨_, rfl, h⟩
  | _, _, i + 1, v, .cons _ r, e => by
    obtain ⟨d, h1, h2⟩ := RepL.getV (i := i) (v := v) r (by simpa using e)
    exact ⟨d, by simpa using h1, h2⟩
theorem RepL.append : ∀ {vs ws : List V} {ds es : List D}, RepL K F vs ds → RepL K F ws es → RepL K F (vs ++ ws) (ds ++ es)
  | _, _, _, _, .nil, s => s
  | _, _, _, _, .cons h r, s => .cons h (r.append s)
theorem RepL.take : ∀ {vs : List V} {ds : List D} (n : Nat), RepL K F vs ds → RepL K F (vs.take n) (ds.take n)
  | _, _, 0, _ => .nil
  | _, _, _ + 1, .nil => .nil
  | _, _, n + 1, .cons h r => .cons h (r.take n)
theorem RepL.drop : ∀ {vs : List V} {ds : List D} (n : Nat), RepL K F vs ds → RepL K F (vs.drop n) (ds.drop n)
  | _, _, 0, r => r
  | _, _, _ + 1, .nil => .nil
  | _, _, n + 1, .cons _ r => r.drop n
theorem RepL.set {v : V} {d : D} (h : Rep K F v d) : ∀ {vs : List V} {ds : List D} (i : Nat), RepL K F vs ds → RepL K F (vs.set i v) (ds.set i d)
  | _, _, _, .nil => .nil
  | _, _, 0, .cons _ r => .cons h r
  | _, _, i + 1, .cons q r => .cons q (r.set h i)
theorem RepL.rev : ∀ {vs : List V} {ds : List D}, RepL K F vs ds → RepL K F vs.reverse ds.reverse
  | _, _, .nil => .nil
  | _, _, .cons h r => by
    rw [List.reverse_cons, List.reverse_cons]
    exact r.rev.append (.cons h .nil)
theorem RepL.rep {vs : List V} {ds : List D} (r : RepL K F vs ds) : ∀ n : Nat, RepL K F (List.replicate n vs).flatten (List.replicate n ds).flatten
  | 0 => .nil
  | n + 1 => by
    rw [List.replicate_succ, List.replicate_succ, List.flatten_cons, List.flatten_cons]
    exact r.append (r.rep n)
mutual
theorem Rep.dp : ∀ {v : V} {d : D}, Rep K F v d → d.canLay0 = true → Dp K F v d
  | _, _, .non, _ => .non
  | _, _, .bl b, _ => .bl b
  | _, _, .int i, _ => .int i
  | _, _, .str x, _ => .str x
  | _, _, .lst h r, c => .lst (sqL_of h) (RepL.dp r (by simpa [PyData.canLay0] using c))
  | _, _, .tup h r, c => .tup h (RepL.dp r (by simpa [PyData.canLay0] using c))
  | _, _, .dic _ _, c => by simp [PyData.canLay0] at c
theorem RepL.dp : ∀ {vs : List V} {ds : List D}, RepL K F vs ds → PyData.canLayAll0 ds = true → DpAll K F vs ds
  | _, _, .nil, _ => .nil
  | _, _, .cons h r, c => by
    simp only [PyData.canLayAll0, Bool.and_eq_true] at c
    exact .cons (Rep.dp h c.1) (RepL.dp r c.2)
end
/-! inversions -/
theorem Rep.int_inv {v : V} {i : Int} (h : Rep K F v (.int i)) : v = .int i := by cases h; rfl
theorem Rep.bl_inv {v : V} {b : Bool} (h : Rep K F v (.bool b)) : v = .bl b := by cases h; rfl
theorem Rep.non_inv {v : V} (h : Rep K F v .none) : v = .non := by cases h; rfl
theorem Rep.str_inv {v : V} {x : Str} (h : Rep K F v (.str x)) : v = .str x := by cases h; rfl
theorem Rep.lst_inv {v : V} {ds : List D} (h : Rep K F v (.list ds)) : ∃ a vs, v = .ref a ∧ F a = some (.lst vs) ∧ RepL K F vs ds := by cases h with | lst h r => exact ⟨_, _, rfl, h, r⟩
theorem Rep.tup_inv {v : V} {ds : List D} (h : Rep K F v (.tuple ds)) : ∃ a vs, v = .ref a ∧ SqT K F a vs ∧ RepL K F vs ds := by cases h with | tup h r => exact ⟨_, _, rfl, h, r⟩
theorem Rep.dic_inv {v : V} {es : List (D × D)} (h : Rep K F v (.dict es)) : ∃ a kvs, v = .ref a ∧ F a = some (.dK kvs) ∧ RepK K F kvs es := by cases h with | dic h r => exact ⟨_, _, rfl, h, r⟩
theorem RepL.ints : ∀ {vs : List V} {ns : List Int}, RepL K F vs (ns.map .int) → vs = ns.map V.int
  | _, [], h => by cases h; rfl
  | _, n :: ns, h => by
    cases h with
    | cons h r => rw [h.int_inv, RepL.ints r]; rfl
theorem RepL.of_ints : ∀ (ns : List Int), RepL K F (ns.map V.int) (ns.map .int)
  | [] => .nil
  | n :: ns => .cons (.int n) (of_ints ns)
theorem RepL.bls : ∀ {vs : List V} {ns : List Bool}, RepL K F vs (ns.map .bool) → vs = ns.map V.bl
  | _, [], h => by cases h; rfl
  | _, n :: ns, h => by
    cases h with
    | cons h r => rw [h.bl_inv, RepL.bls r]; rfl
end

/-! ### slots, states -/
inductive Mu where
  | town (n : Nat)
  | scr (ns : List Int)
  | trk (here : D) (past : List D)
  | exn (k : Nat)
  | fnc (k : Nat)
  | raw
  | half (here : D)
  | lst (ds : List D)
inductive Sl where
  | none
  | dat (d : D)
  | own (d : D)
  | pin (m : Mu)
/-- what is fixed: the written part, the class Track, the classes of errors -/
structure G where
  K : Fr
  C : Addr
  cls : Nat → Value
  ea : Addr
  en : Nat
def trkF (vh : V) (p : Addr) : List (Str × V) := [("here", vh), ("past", .ref p)]
def SlOk (g : G) (F H : Hp) (P : Addr → Prop) (o : Option V) : Sl → Prop
  | .none => True
  | .dat d => ∃ v, o = some v ∧ Rep g.K F v d
  | .own (.list ds) => ∃ p vs, o = some (.ref p) ∧ P p ∧ H p = some (.lst vs) ∧ RepL g.K F vs ds
  | .own (.dict es) => ∃ p kvs, o = some (.ref p) ∧ P p ∧ H p = some (.dK kvs) ∧ RepK g.K F kvs es
  | .own _ => False
  | .pin (.town n) => ∃ p, o = some (.ref p) ∧ P p ∧ H p = some (.lst (List.replicate n (.int 0)))
  | .pin (.scr ns) => ∃ a, o = some (.ref a) ∧ SqF g.K F a (ns.map V.int)
  | .pin (.exn k) => o = some (.ref g.ea) ∧ g.en = k
  | .pin (.fnc k) => ∃ a, o = some (.ref a) ∧ g.cls (100 + k) = .ref a
  | .pin (.trk here past) => ∃ a dx vh p vs, o = some (.ref a) ∧ P a ∧ P p ∧ a ≠ p ∧ H a = some (.ins g.C dx (trkF vh p)) ∧ H p = some (.lst vs) ∧ Rep g.K F vh here ∧ RepL g.K F vs past
  | .pin .raw => ∃ a dx, o = some (.ref a) ∧ P a ∧ H a = some (.ins g.C dx [])
  | .pin (.half here) => ∃ a dx vh, o = some (.ref a) ∧ P a ∧ H a = some (.ins g.C dx [("here", vh)]) ∧ Rep g.K F vh here
  | .pin (.lst ds) => ∃ p vs, o = some (.ref p) ∧ P p ∧ H p = some (.lst vs) ∧ RepL g.K F vs ds
theorem SlOk.keep {g : G} {F H F' H' : Hp} {P P' : Addr → Prop} {o : Option V} (e : Ex F F') (k : ∀ a, P a → H a ≠ none → H' a = H a) (hp : ∀ a, P a → P' a) : ∀ {s : Sl}, SlOk g F H P o s → SlOk g F' H' P' o s
  | .none, _ => True.intro
  | .dat d, ⟨v, h1, h2⟩ => ⟨v, h1, h2.mono e⟩
  | .own (.list ds), ⟨p, vs, h1, h2, h3, h4⟩ => ⟨p, vs, h1, hp p h2, (k p h2 (by rw [h3]; exact fun q => nomatch q)).trans h3, h4.mono e⟩
  | .own (.dict es), ⟨p, vs, h1, h2, h3, h4⟩ => ⟨p, vs, h1, hp p h2, (k p h2 (by rw [h3]; exact fun q => nomatch q)).trans h3, h4.mono e⟩
  | .own .none, h | .own (.bool _), h | .own (.int _), h | .own (.str _), h | .own (.tuple _), h => h
  | .pin (.town n), ⟨p, h1, h2, h3⟩ => ⟨p, h1, hp p h2, (k p h2 (by rw [h3]; exact fun q => nomatch q)).trans h3⟩
  | .pin (.scr ns), ⟨a, h1, h2⟩ => ⟨a, h1, e.sqF h2⟩
  | .pin (.exn k), h => h
  | .pin (.fnc k), h => h
  | .pin (.trk here past), ⟨a, dx, vh, p, vs, h1, h2, h3, h4, h5, h6, h7, h8⟩ =>
    ⟨a, dx, vh, p, vs, h1, hp a h2, hp p h3, h4, (k a h2 (by rw [h5]; exact fun q => nomatch q)).trans h5, (k p h3 (by rw [h6]; exact fun q => nomatch q)).trans h6, h7.mono e, h8.mono e⟩
  | .pin .raw, ⟨a, dx, h1, h2, h3⟩ => ⟨a, dx, h1, hp a h2, (k a h2 (by rw [h3]; exact fun q => nomatch q)).trans h3⟩
  | .pin (.half here), ⟨a, dx, vh, h1, h2, h3, h4⟩ => ⟨a, dx, vh, h1, hp a h2, (k a h2 (by rw [h3]; exact fun q => nomatch q)).trans h3, h4.mono e⟩
  | .pin (.lst ds), ⟨p, vs, h1, h2, h3, h4⟩ => ⟨p, vs, h1, hp p h2, (k p h2 (by rw [h3]; exact fun q => nomatch q)).trans h3, h4.mono e⟩

/-- a state: the data's heap F, the whole heap H, the addresses W that names own, the slots, what they stand for -/
structure S where
  F : Hp
  H : Hp
  W : Addr → Prop
  σ : L2.St
  ρ : List Sl
structure S.Ok (g : G) (s : S) : Prop where
  ex : Ex s.F s.H
  fw : ∀ a, s.W a → s.F a = none ∧ s.H a ≠ none
  len : s.σ.length = s.ρ.length
  sl : ∃ O : Nat → Addr → Prop, (∀ i a, O i a → s.W a) ∧ (∀ i j a, O i a → O j a → i = j) ∧ ∀ i x, s.ρ[i]? = some x → SlOk g s.F s.H (O i) (s.σ[i]?.join) x
structure Go (s t : S) : Prop where
  f : Ex s.F t.F
  keep : ∀ a o, s.H a = some o → ¬ s.W a → t.H a = some o
  fr : ∀ a, s.H a ≠ none → s.F a = none → ¬ s.W a → t.F a = none
  own : ∀ a, t.W a → s.W a ∨ s.H a = none
  pk : ∀ (i : Nat) (m : Mu), s.ρ[i]? = some (Sl.pin m) → t.σ[i]? = s.σ[i]? ∧ ∃ m', t.ρ[i]? = some (Sl.pin m')
theorem Go.refl (s : S) : Go s s := ⟨.refl _, fun _ _ h _ => h, fun _ _ h _ => h, fun _ h => .inl h, fun i m h => ⟨rfl, m, h⟩⟩
theorem Go.trans {s t u : S} (a : Go s t) (b : Go t u) : Go s u where
  f := a.f.trans b.f
  keep := fun x o h hw => b.keep x o (a.keep x o h hw) fun q => by
    rcases a.own x q with z | z
    · exact hw z
    · rw [z] at h; cases h
  fr := fun x h hf hw => by
    cases e : s.H x with
    | none => exact absurd e h
    | some o =>
      refine b.fr x (by rw [a.keep x o e hw]; exact fun q => nomatch q) (a.fr x h hf hw) fun q => ?_
      rcases a.own x q with z | z
      · exact hw z
      · exact h z
  own := fun x h => by
    rcases b.own x h with z | z
    · exact a.own x z
    · by_cases hw : s.W x
      · exact .inl hw
      · cases e : s.H x with
        | none => exact .inr rfl
        | some o => rw [a.keep x o e hw] at z; cases z
  pk := fun i m h => by
    obtain ⟨h1, m1, h2⟩ := a.pk i m h
    obtain ⟨h3, m3, h4⟩ := b.pk i m1 h2
    exact ⟨h3.trans h1, m3, h4⟩

/-! ### outcomes -/
inductive Res (α : Type) where
  | ok (a : α) (ρ : List Sl)
  | exc (e : Nat) (ρ : List Sl)
  | bad
def Res.bind {α β : Type} : Res α → (α → List Sl → Res β) → Res β
  | .ok a ρ, f => f a ρ
  | .exc e ρ, _ => .exc e ρ
  | .bad, _ => .bad
abbrev EX := L2.St → XK
def S.put (s : S) (F H : Hp) (W : Addr → Prop) (ρ : List Sl) : S := ⟨F, H, W, s.σ, ρ⟩
/-- what follows an expression's outcome -/
def Aft {α : Type} (g : G) (E : EX) (s : S) : Res α → (α → S → Prop) → Prop
  | .ok d ρ', k => ∀ F H W, (S.mk F H W s.σ ρ').Ok g → Go s ⟨F, H, W, s.σ, ρ'⟩ → k d ⟨F, H, W, s.σ, ρ'⟩
  | .exc e ρ', _ => ∀ F H W, (S.mk F H W s.σ ρ').Ok g → Go s ⟨F, H, W, s.σ, ρ'⟩ → E s.σ (g.cls e) none H
  | .bad, _ => False
theorem Aft.bind {α β : Type} {g : G} {E : EX} {s : S} {f : α → List Sl → Res β} {k : β → S → Prop} : ∀ {r : Res α}, Aft g E s (r.bind f) k → Aft g E s r (fun d t => Aft g E t (f d t.ρ) k)
  | .ok d ρ', h => fun F H W ok go => by
    have h' : Aft g E s (f d ρ') k := h
    show Aft g E ⟨F, H, W, s.σ, ρ'⟩ (f d ρ') k
    cases e : f d ρ' with
    | ok b ρ2 =>
      rw [e] at h'
      exact fun F2 H2 W2 ok2 go2 => h' F2 H2 W2 ok2 (go.trans go2)
    | exc x ρ2 =>
      rw [e] at h'
      exact fun F2 H2 W2 ok2 go2 => h' F2 H2 W2 ok2 (go.trans go2)
    | bad => rw [e] at h'; exact h'
  | .exc e ρ', h => h
  | .bad, h => h
theorem Aft.here {α : Type} {g : G} {E : EX} {s : S} {d : α} {k : α → S → Prop} (ok : s.Ok g) (h : Aft g E s (.ok d s.ρ) k) : k d s := h s.F s.H s.W ok (Go.refl s)
theorem Aft.mono {α : Type} {g : G} {E : EX} {s : S} {k k' : α → S → Prop} : ∀ {r : Res α}, Aft g E s r k → (∀ (d : α) (F H : Hp) (W : Addr → Prop) (ρ : List Sl), (S.mk F H W s.σ ρ).Ok g → Go s ⟨F, H, W, s.σ, ρ⟩ → k d ⟨F, H, W, s.σ, ρ⟩ → k' d ⟨F, H, W, s.σ, ρ⟩) → Aft g E s r k'
  | .ok d ρ', h, q => fun F H W ok go => q d F H W ρ' ok go (h F H W ok go)
  | .exc e ρ', h, _ => h
  | .bad, h, _ => h

abbrev AE := List Sl → Res D
abbrev AT := List Sl → Res Bool
abbrev AA := List Sl → Res (List (D ⊕ Nat))
def SE (g : G) (E : EX) (te : TE) (a : AE) : Prop := ∀ (s : S) (Q : VK), s.Ok g → Aft g E s (a s.ρ) (fun d t => ∀ v, Rep g.K t.F v d → Q v t.H) → te s.σ s.H Q
def ST (g : G) (E : EX) (tt : TT) (a : AT) : Prop := ∀ (s : S) (Q : Bool → Hp → Prop), s.Ok g → Aft g E s (a s.ρ) (fun b t => Q b t.H) → tt s.σ s.H Q
end DL

namespace DL
open PySem PySem.Spec PyProof.Rows L2

def sl : List Sl → Nat → Sl
  | [], _ => .none
  | s :: _, 0 => s
  | _ :: r, i + 1 => sl r i
theorem sl_get : ∀ {ρ : List Sl} {i : Nat} {x : Sl}, sl ρ i = x → x ≠ .none → ρ[i]? = some x
  | [], i, x, h, q => absurd h.symm q
  | s :: r, 0, x, h, q => by show some s = some x; rw [show s = x from h]
  | s :: r, i + 1, x, h, q => by
    have := sl_get (ρ := r) (i := i) h q
    simpa using this
abbrev G.at (g : G) (K : Fr) : G := ⟨K, g.C, g.cls, g.ea, g.en⟩
def lift {α : Type} : Option α → List Sl → Res α
  | some d, ρ => .ok d ρ
  | none, _ => .bad
theorem Aft.lift {α : Type} {g : G} {E : EX} {s : S} {o : Option α} {k : α → S → Prop} (h : Aft g E s (lift o s.ρ) k) : ∃ d, o = some d ∧ ∀ F H W, (S.mk F H W s.σ s.ρ).Ok g → Go s ⟨F, H, W, s.σ, s.ρ⟩ → k d ⟨F, H, W, s.σ, s.ρ⟩ := by
  cases o with
  | none => exact h.elim
  | some d => exact ⟨d, rfl, h⟩

/-! a new object in the data's heap -/
theorem S.Ok.new {g : G} {s : S} (ok : s.Ok g) {p : Addr} {o : HO} (hp : s.H p = none) : (S.mk (upd s.F p o) (upd s.H p o) s.W s.σ s.ρ).Ok g ∧ Go s ⟨upd s.F p o, upd s.H p o, s.W, s.σ, s.ρ⟩ := by
  have fp : s.F p = none := ok.ex.free hp
  have hw : ∀ a, s.W a → a ≠ p := fun a ha e => (ok.fw a ha).2 (by rw [e]; exact hp)
  refine ⟨⟨fun a u h => ?_, fun a ha => ?_, ok.len, ?_⟩, ⟨Ex.new fp, fun a u h _ => Ex.new hp a u h, fun a ha hf _ => ?_, fun a h => .inl h, fun i m h => ⟨rfl, m, h⟩⟩⟩
  · by_cases e : a = p
    · subst e
      have h' : upd s.F a o a = some u := h
      show upd s.H a o a = some u
      rw [upd_same] at h' ⊢
      exact h'
    · have h' : upd s.F p o a = some u := h
      rw [upd_ne e] at h'
      show upd s.H p o a = some u
      rw [upd_ne e]
      exact ok.ex a u h'
  · have := hw a ha
    show upd s.F p o a = none ∧ upd s.H p o a ≠ none
    rw [upd_ne this, upd_ne this]
    exact ok.fw a ha
  · obtain ⟨O, h1, h2, h3⟩ := ok.sl
    refine ⟨O, h1, h2, fun i x hx => (h3 i x hx).keep (Ex.new fp) (fun a ha _ => ?_) fun _ q => q⟩
    exact upd_ne (hw a (h1 i a ha))
  · have : a ≠ p := fun e => ha (by rw [e]; exact hp)
    show upd s.F p o a = none
    rw [upd_ne this]; exact hf

section
variable {g : G} {E : EX}
/-! ### names and constants -/
def aVar (i : Nat) : AE := fun ρ => match sl ρ i with | .dat d => .ok d ρ | _ => .bad
theorem se_var (i : Nat) : SE g E (tVar i) (aVar i) := fun s Q ok h => by
  unfold aVar at h
  cases e : sl s.ρ i with
  | dat d =>
    rw [e] at h
    obtain ⟨O, _, _, h3⟩ := ok.sl
    obtain ⟨v, hv, r⟩ := h3 i _ (sl_get e fun q => nomatch q)
    refine ⟨v, ?_, (Aft.here (s := s) ok h) v r⟩
    cases q : s.σ[i]? with
    | none => rw [q] at hv; cases hv
    | some u => rw [q] at hv; exact congrArg some hv
  | none => rw [e] at h; exact h.elim
  | own d => rw [e] at h; exact h.elim
  | pin m => rw [e] at h; exact h.elim
def aC (d : D) : AE := fun ρ => .ok d ρ
theorem se_c {v : V} {d : D} (r : ∀ F, Rep g.K F v d) : SE g E (tC v) (aC d) := fun s Q ok h => Aft.here (s := s) ok h v (r _)
theorem se_int (i : Int) : SE g E (tC (.int i)) (aC (.int i)) := se_c fun _ => .int i
theorem se_bl (b : Bool) : SE g E (tC (.bl b)) (aC (.bool b)) := se_c fun _ => .bl b
theorem se_non : SE g E (tC .non) (aC .none) := se_c fun _ => .non
theorem se_str (x : Str) : SE g E (tC (.str x)) (aC (.str x)) := se_c fun _ => .str x

/-! ### two operands -/
def aBin (f : D → D → Option D) (a b : AE) : AE := fun ρ => (a ρ).bind fun d1 ρ1 => (b ρ1).bind fun d2 ρ2 => lift (f d1 d2) ρ2
/-- an operation on values does f on data -/
def RS (g : G) (r : R2) (f : D → D → Option D) : Prop := ∀ (s : S) (x y : V) (d1 d2 d : D) (Q : VK), s.Ok g → Rep g.K s.F x d1 → Rep g.K s.F y d2 → f d1 d2 = some d →
  (∀ v F H, (S.mk F H s.W s.σ s.ρ).Ok g → Go s ⟨F, H, s.W, s.σ, s.ρ⟩ → Rep g.K F v d → Q v H) → r x y s.H Q
theorem se_bin {r : R2} {f : D → D → Option D} {ta tb : TE} {a b : AE} (hr : RS g r f) (ha : SE g E ta a) (hb : SE g E tb b) : SE g E (tOp r ta tb) (aBin f a b) := fun s Q ok h =>
  ha s _ ok ((Aft.bind h).mono fun d1 F1 H1 W1 ρ1 ok1 go1 h1 v1 r1 =>
    hb ⟨F1, H1, W1, s.σ, ρ1⟩ _ ok1 ((Aft.bind h1).mono fun d2 F2 H2 W2 ρ2 ok2 go2 h2 v2 r2 => by
      obtain ⟨d, hf, k⟩ := h2.lift
      exact hr ⟨F2, H2, W2, s.σ, ρ2⟩ v1 v2 d1 d2 d Q ok2 (r1.mono go2.f) r2 hf fun v F H ok3 go3 r3 => k F H _ ok3 go3 v r3))

/-! ### a rule whose answer is data without a new object -/
theorem RS.sc {r : R2} {f : D → D → Option D} (h : ∀ (F H : Hp) (x y : V) (d1 d2 d : D) (Q : VK), Ex F H → Rep g.K F x d1 → Rep g.K F y d2 → f d1 d2 = some d → (∀ v, Rep g.K F v d → Q v H) → r x y H Q) : RS g r f :=
  fun s x y d1 d2 d Q ok r1 r2 hf k => h s.F s.H x y d1 d2 d Q ok.ex r1 r2 hf fun v rv => k v s.F s.H ok (Go.refl s) rv
theorem new_lst {s : S} {vs : List V} {ds : List D} {Q : VK} (ok : s.Ok g) (r : RepL g.K s.F vs ds) (k : ∀ v F H, (S.mk F H s.W s.σ s.ρ).Ok g → Go s ⟨F, H, s.W, s.σ, s.ρ⟩ → Rep g.K F v (.list ds) → Q v H) : ∀ p, s.H p = none → Q (.ref p) (upd s.H p (.lst vs)) := fun p hp => by
  obtain ⟨ok', go⟩ := ok.new (o := .lst vs) hp
  exact k _ _ _ ok' go (.lst upd_same (r.mono go.f))
theorem new_tup {s : S} {vs : List V} {ds : List D} {Q : VK} (ok : s.Ok g) (r : RepL g.K s.F vs ds) (k : ∀ v F H, (S.mk F H s.W s.σ s.ρ).Ok g → Go s ⟨F, H, s.W, s.σ, s.ρ⟩ → Rep g.K F v (.tuple ds) → Q v H) : ∀ p, s.H p = none → Q (.ref p) (upd s.H p (.tup vs)) := fun p hp => by
  obtain ⟨ok', go⟩ := ok.new (o := .tup vs) hp
  exact k _ _ _ ok' go (.tup (sqT_of upd_same) (r.mono go.f))

/-! ### + - * // % ** -/
def oAdd : D → D → Option D
  | .int i, .int j => some (.int (i + j))
  | .str x, .str y => if x.length + y.length ≤ sizeLine then some (.str (x ++ y)) else none
  | .list a, .list b => if a.length + b.length ≤ sizeLine then some (.list (a ++ b)) else none
  | .tuple a, .tuple b => if a.length + b.length ≤ sizeLine then some (.tuple (a ++ b)) else none
  | _, _ => none
def rAddAny (K : Fr) : R2 := fun x y H Q => (rI0 (fun i j => .int (i + j)) x y H Q) ∨ (∃ i j, x = .str i ∧ y = .str j ∧ i.length + j.length ≤ sizeLine ∧ Q (.str (i ++ j)) H) ∨ rCat x y H Q ∨ rCatA K x y H Q
theorem rs_add : RS g (rAddAny g.K) oAdd := fun s x y d1 d2 d Q ok r1 r2 hf k => by
  unfold oAdd at hf
  split at hf
  · cases r1; cases r2; cases hf
    exact .inl ⟨_, _, rfl, rfl, k _ s.F s.H ok (Go.refl s) (.int _)⟩
  · cases r1; cases r2
    split at hf
    · cases hf
      exact .inr (.inl ⟨_, _, rfl, rfl, by assumption, k _ s.F s.H ok (Go.refl s) (.str _)⟩)
    · cases hf
  · cases r1 with
    | lst h1 r1 =>
      cases r2 with
      | lst h2 r2 =>
        split at hf
        · cases hf
          exact .inr (.inr (.inl ⟨_, _, _, _, rfl, rfl, ok.ex _ _ h1, ok.ex _ _ h2, by rw [r1.length, r2.length]; assumption, new_lst ok (r1.append r2) k⟩))
        · cases hf
  · cases r1 with
    | tup h1 r1 =>
      cases r2 with
      | tup h2 r2 =>
        split at hf
        · cases hf
          refine .inr (.inr (.inr ⟨_, _, _, _, rfl, rfl, ok.ex.sqT h1, ok.ex.sqT h2, by rw [r1.length, r2.length]; assumption, fun e => ?_, fun _ e => ?_, fun _ _ => new_tup ok (r1.append r2) k⟩))
          · subst e
            cases r1
            exact k _ s.F s.H ok (Go.refl s) (.tup h2 r2)
          · subst e
            cases r2
            rw [List.append_nil] at k
            exact k _ s.F s.H ok (Go.refl s) (.tup h1 r1)
        · cases hf
  · cases hf
def oSub : D → D → Option D
  | .int i, .int j => some (.int (i - j))
  | _, _ => none
theorem rs_sub : RS g (rI0 fun i j => .int (i - j)) oSub := RS.sc fun F H x y d1 d2 d Q e r1 r2 hf k => by
  unfold oSub at hf
  split at hf
  · cases r1; cases r2; cases hf
    exact ⟨_, _, rfl, rfl, k _ (.int _)⟩
  · cases hf
def small64 (i : Int) : Bool := decide (-(2 ^ 64) < i) && decide (i < 2 ^ 64)
theorem small64_of {i : Int} (h : small64 i = true) : -(2 ^ 64) < i ∧ i < 2 ^ 64 := by
  unfold small64 at h
  rw [Bool.and_eq_true, decide_eq_true_eq, decide_eq_true_eq] at h
  exact h
def oMul : D → D → Option D
  | .int i, .int j => if small64 i || small64 j then some (.int (i * j)) else none
  | .list a, .int k => if k < 2 ^ 62 ∧ -(2 ^ 62) ≤ k ∧ a.length * k.toNat ≤ sizeLine then some (.list (List.replicate k.toNat a).flatten) else none
  | _, _ => none
def rMulAny : R2 := fun x y H Q => rI CMul (fun i j => .int (i * j)) x y H Q ∨ rRep x y H Q
theorem rs_mul : RS g rMulAny oMul := fun s x y d1 d2 d Q ok r1 r2 hf k => by
  unfold oMul at hf
  split at hf
  · cases r1; cases r2
    split at hf
    · cases hf
      rename_i i j c
      rw [Bool.or_eq_true] at c
      exact .inl ⟨_, _, rfl, rfl, c.imp small64_of small64_of, k _ s.F s.H ok (Go.refl s) (.int _)⟩
    · cases hf
  · cases r1 with
    | lst h1 r1 =>
      cases r2
      split at hf
      · cases hf
        rename_i c
        exact .inr ⟨_, _, _, rfl, rfl, ok.ex _ _ h1, by omega, by omega, by rw [r1.length]; exact c.2.2, new_lst ok (r1.rep _) k⟩
      · cases hf
  · cases hf
def oFdiv : D → D → Option D
  | .int i, .int j => if j ≠ 0 ∧ j.natAbs < 1073741824 then some (.int (i.fdiv j)) else none
  | _, _ => none
theorem rs_fdiv : RS g (rI CDivN fun i j => .int (i.fdiv j)) oFdiv := RS.sc fun F H x y d1 d2 d Q e r1 r2 hf k => by
  unfold oFdiv at hf
  split at hf
  · cases r1; cases r2
    split at hf
    · cases hf
      exact ⟨_, _, rfl, rfl, by assumption, k _ (.int _)⟩
    · cases hf
  · cases hf
def oMod : D → D → Option D
  | .int i, .int j => if j ≠ 0 then some (.int (i.fmod j)) else none
  | _, _ => none
theorem rs_mod : RS g (rI (fun _ j => j ≠ 0) fun i j => .int (i.fmod j)) oMod := RS.sc fun F H x y d1 d2 d Q e r1 r2 hf k => by
  unfold oMod at hf
  split at hf
  · cases r1; cases r2
    split at hf
    · cases hf
      exact ⟨_, _, rfl, rfl, by assumption, k _ (.int _)⟩
    · cases hf
  · cases hf
def oPow : D → D → Option D
  | .int i, .int j => if 0 ≤ j ∧ j ≤ 1000000 ∧ i.natAbs < 2 ^ 64 then some (.int (i ^ j.toNat)) else none
  | _, _ => none
theorem rs_pow : RS g (rI CPow fun i j => .int (i ^ j.toNat)) oPow := RS.sc fun F H x y d1 d2 d Q e r1 r2 hf k => by
  unfold oPow at hf
  split at hf
  · cases r1; cases r2
    split at hf
    · cases hf
      exact ⟨_, _, rfl, rfl, by assumption, k _ (.int _)⟩
    · cases hf
  · cases hf
/-! ### comparisons -/
def oCmp (p : Int → Int → Bool) : D → D → Option D
  | .int i, .int j => some (.bool (p i j))
  | _, _ => none
theorem rs_cmp (p : Int → Int → Bool) : RS g (rI0 fun i j => .bl (p i j)) (oCmp p) := RS.sc fun F H x y d1 d2 d Q e r1 r2 hf k => by
  unfold oCmp at hf
  split at hf
  · cases r1; cases r2; cases hf
    exact ⟨_, _, rfl, rfl, k _ (.bl _)⟩
  · cases hf
abbrev oLt := oCmp fun i j => decide (i < j)
abbrev oLe := oCmp fun i j => decide (i ≤ j)
abbrev oGt := oCmp fun i j => decide (j < i)
abbrev oGe := oCmp fun i j => decide (j ≤ i)
def oEq (d e : D) : Option D := if SeqAt.shaped d = true ∧ SeqAt.shaped e = true then some (.bool (PyData.eqv d e)) else none
def oNe (d e : D) : Option D := if SeqAt.shaped d = true ∧ SeqAt.shaped e = true then some (.bool (!PyData.eqv d e)) else none
theorem rs_eq : RS g (rEqD g.K) oEq := RS.sc fun F H x y d1 d2 d Q e r1 r2 hf k => by
  unfold oEq at hf
  split at hf
  · rename_i c
    cases hf
    exact ⟨d1, d2, (r1.mono e).dp (SeqAt.canLay_of_shaped c.1), (r2.mono e).dp (SeqAt.canLay_of_shaped c.2), c.1, c.2, k _ (.bl _)⟩
  · cases hf
theorem rs_ne : RS g (rNeD g.K) oNe := RS.sc fun F H x y d1 d2 d Q e r1 r2 hf k => by
  unfold oNe at hf
  split at hf
  · rename_i c
    cases hf
    exact ⟨d1, d2, (r1.mono e).dp (SeqAt.canLay_of_shaped c.1), (r2.mono e).dp (SeqAt.canLay_of_shaped c.2), c.1, c.2, k _ (.bl _)⟩
  · cases hf
def isNon : D → Bool
  | .none => true
  | .bool _ => false
  | .int _ => false
  | .str _ => false
  | .list _ => false
  | .tuple _ => false
  | .dict _ => false
theorem isNon_dec {F : Hp} {x : V} {d : D} (r : Rep g.K F x d) : decide (x = .non) = isNon d := by
  cases r <;> first | rfl | exact decide_eq_false fun q => nomatch q
def oIsN (d e : D) : Option D := if isNon e then some (.bool (isNon d)) else none
def oNotN (d e : D) : Option D := if isNon e then some (.bool (!isNon d)) else none
theorem rs_isN : RS g (fun x y H Q => y = .non ∧ Q (.bl (decide (x = .non))) H) oIsN := RS.sc fun F H x y d1 d2 d Q e r1 r2 hf k => by
  unfold oIsN at hf
  split at hf
  · rename_i c
    cases hf
    refine ⟨?_, ?_⟩
    · cases r2 <;> first | rfl | cases c
    · rw [isNon_dec r1]; exact k _ (.bl _)
  · cases hf
theorem rs_notN : RS g (fun x y H Q => y = .non ∧ Q (.bl (!decide (x = .non))) H) oNotN := RS.sc fun F H x y d1 d2 d Q e r1 r2 hf k => by
  unfold oNotN at hf
  split at hf
  · rename_i c
    cases hf
    refine ⟨?_, ?_⟩
    · cases r2 <;> first | rfl | cases c
    · rw [isNon_dec r1]; exact k _ (.bl _)
  · cases hf
/-! ### index -/
theorem atI_rep {K : Fr} {F : Hp} {vs : List V} {ds : List D} {i : Int} {d : D} (r : RepL K F vs ds) (h : atI ds i = some d) : ∃ v, atI vs i = some v ∧ Rep K F v d := by
  unfold atI at h ⊢
  rw [r.length]
  cases e : ixN ds.length i with
  | none => rw [e] at h; cases h
  | some j =>
    rw [e] at h
    exact r.get h
def oIdx : D → D → Option D
  | .list a, .int i => atI a i
  | .tuple a, .int i => atI a i
  | .str x, .int i => if x.length ≤ sizeLine then (atI x.cps.toList i).map fun c => .str ⟨#[c]⟩ else none
  | _, _ => none
theorem rs_idx : RS g (rIx g.K) oIdx := RS.sc fun F H x y d1 d2 d Q e r1 r2 hf k => by
  unfold oIdx at hf
  split at hf
  · cases r1 with
    | lst h1 r1 =>
      cases r2
      obtain ⟨v, hv, rv⟩ := atI_rep r1 hf
      exact .inl ⟨_, _, _, v, rfl, rfl, sqL_of (e _ _ h1), hv, k _ rv⟩
  · cases r1 with
    | tup h1 r1 =>
      cases r2
      obtain ⟨v, hv, rv⟩ := atI_rep r1 hf
      exact .inr (.inl ⟨_, _, _, v, rfl, rfl, e.sqT h1, hv, k _ rv⟩)
  · cases r1; cases r2
    split at hf
    · rename_i c
      obtain ⟨z, hz, rfl⟩ := Option.map_eq_some_iff.mp hf
      exact .inr (.inr ⟨_, _, z, rfl, rfl, c, hz, k _ (.str _)⟩)
    · cases hf
  · cases hf
/-! ### slices -/
def cutG {α : Type} (xs : List α) (lo hi : Option Int) : List α := (xs.drop (HT.sIx xs.length 0 lo)).take (HT.sIx xs.length xs.length hi - HT.sIx xs.length 0 lo)
theorem cut_rep {K : Fr} {F : Hp} {vs : List V} {ds : List D} {lo hi : Option Int} (r : RepL K F vs ds) : RepL K F (cutV vs lo hi) (cutG ds lo hi) := by
  unfold cutV cutG
  rw [r.length]
  exact (r.drop _).take _
def oSl (lo hi : Option Int) : D → Option D
  | .list a => some (.list (cutG a lo hi))
  | .tuple a => some (.tuple (cutG a lo hi))
  | .str x => if x.length ≤ sizeLine then some (.str (cutS x lo hi)) else none
  | _ => none
def rSlAny (K : Fr) : V → Option Int → Option Int → Hp → VK → Prop := fun x lo hi H Q => rSlL K x lo hi H Q ∨ rSlA K x lo hi H Q ∨ rSlS x lo hi H Q
abbrev AO := List Sl → Res (Option Int)
def SO (g : G) (E : EX) (to : TO) (a : AO) : Prop := ∀ (s : S) (Q : Option Int → Hp → Prop), s.Ok g → Aft g E s (a s.ρ) (fun b t => Q b t.H) → to s.σ s.H Q
def aNoPart : AO := fun ρ => .ok none ρ
def aPart (a : AE) : AO := fun ρ => (a ρ).bind fun d ρ1 => match d with | .int i => .ok (some i) ρ1 | _ => .bad
theorem so_none : SO g E tNoPart aNoPart := fun s Q ok h => Aft.here (s := s) ok h
theorem so_part {te : TE} {a : AE} (ha : SE g E te a) : SO g E (tPart te) (aPart a) := fun s Q ok h =>
  ha s _ ok ((Aft.bind h).mono fun d F H W ρ ok1 go1 h1 v rv => by
    cases d with
    | int i => cases rv; exact ⟨i, rfl, Aft.here (s := ⟨F, H, W, s.σ, ρ⟩) ok1 h1⟩
    | _ => exact h1.elim)
def aSl (a : AE) (l h : AO) : AE := fun ρ => (a ρ).bind fun d ρ1 => (l ρ1).bind fun lo ρ2 => (h ρ2).bind fun hi ρ3 => lift (oSl lo hi d) ρ3
theorem se_sl {te : TE} {tl th : TO} {a : AE} {l r : AO} (ha : SE g E te a) (hl : SO g E tl l) (hr : SO g E th r) : SE g E (tSl (rSlAny g.K) te tl th) (aSl a l r) := fun s Q ok h =>
  ha s _ ok ((Aft.bind h).mono fun d F1 H1 W1 ρ1 ok1 go1 h1 v rv =>
    hl ⟨F1, H1, W1, s.σ, ρ1⟩ _ ok1 ((Aft.bind h1).mono fun lo F2 H2 W2 ρ2 ok2 go2 h2 =>
      hr ⟨F2, H2, W2, s.σ, ρ2⟩ _ ok2 ((Aft.bind h2).mono fun hi F3 H3 W3 ρ3 ok3 go3 h3 => by
        obtain ⟨d', hf, k⟩ := h3.lift
        have rv' := rv.mono (go2.f.trans go3.f)
        have k' : ∀ v F H, (S.mk F H W3 s.σ ρ3).Ok g → Go ⟨F3, H3, W3, s.σ, ρ3⟩ ⟨F, H, W3, s.σ, ρ3⟩ → Rep g.K F v d' → Q v H := fun v F H ok' go' r' => k F H W3 ok' go' v r'
        unfold oSl at hf
        split at hf
        · cases hf
          cases rv' with
          | lst h r => exact .inl ⟨_, _, rfl, sqL_of (ok3.ex _ _ h), new_lst (s := ⟨F3, H3, W3, s.σ, ρ3⟩) ok3 (cut_rep r) k'⟩
        · cases hf
          cases rv' with
          | tup h r =>
            refine .inr (.inl ⟨_, _, rfl, ok3.ex.sqT h, fun c => ?_, fun _ => new_tup (s := ⟨F3, H3, W3, s.σ, ρ3⟩) ok3 (cut_rep r) k'⟩)
            refine k' _ F3 H3 ok3 (Go.refl _) (.tup h ?_)
            rw [r.length] at c
            unfold cutG
            rw [c.1, c.2, List.drop_zero, Nat.sub_zero, List.take_length]
            exact r
        · cases rv'
          split at hf
          · cases hf
            exact .inr (.inr ⟨_, rfl, by assumption, k' _ F3 H3 ok3 (Go.refl _) (.str _)⟩)
          · cases hf
        · cases hf)))
/-- a list from its end -/
def aRev (a : AE) : AE := fun ρ => (a ρ).bind fun d ρ1 => match d with | .list ds => .ok (.list ds.reverse) ρ1 | _ => .bad
theorem se_rev {te : TE} {a : AE} (ha : SE g E te a) : SE g E (tRevL g.K te) (aRev a) := fun s Q ok h =>
  ha s _ ok ((Aft.bind h).mono fun d F1 H1 W1 ρ1 ok1 go1 h1 v rv => by
    cases d with
    | list ds =>
      cases rv with
      | lst h r => exact ⟨_, _, rfl, sqL_of (ok1.ex _ _ h), new_lst (s := ⟨F1, H1, W1, s.σ, ρ1⟩) ok1 r.rev fun v F H ok' go' r' => h1 F H W1 ok' go' v r'⟩
    | _ => exact h1.elim)

/-! ### arguments, displays -/
abbrev AD := List Sl → Res (List D)
def SD (g : G) (E : EX) (ta : TA) (a : AD) : Prop := ∀ (s : S) (Q : List V → Hp → Prop), s.Ok g → Aft g E s (a s.ρ) (fun ds t => ∀ vs, RepL g.K t.F vs ds → Q vs t.H) → ta s.σ s.H Q
def aNil : AD := fun ρ => .ok [] ρ
def aCons (a : AE) (b : AD) : AD := fun ρ => (a ρ).bind fun d ρ1 => (b ρ1).bind fun ds ρ2 => .ok (d :: ds) ρ2
theorem sd_nil : SD g E tNil aNil := fun s Q ok h => Aft.here (s := s) ok h _ .nil
theorem sd_cons {te : TE} {ta : TA} {a : AE} {b : AD} (ha : SE g E te a) (hb : SD g E ta b) : SD g E (tCons te ta) (aCons a b) := fun s Q ok h =>
  ha s _ ok ((Aft.bind h).mono fun d F1 H1 W1 ρ1 ok1 go1 h1 v rv =>
    hb ⟨F1, H1, W1, s.σ, ρ1⟩ _ ok1 ((Aft.bind h1).mono fun ds F2 H2 W2 ρ2 ok2 go2 h2 vs rs =>
      Aft.here (s := ⟨F2, H2, W2, s.σ, ρ2⟩) ok2 h2 _ (.cons (rv.mono go2.f) rs)))
def aTup (a : AD) : AE := fun ρ => (a ρ).bind fun ds ρ1 => if ds.length ≤ 1000 then .ok (.tuple ds) ρ1 else .bad
def aLst (a : AD) : AE := fun ρ => (a ρ).bind fun ds ρ1 => if ds.length ≤ 1000 then .ok (.list ds) ρ1 else .bad
theorem sz_of {n : Nat} (h : n ≤ 1000) : n ≤ sizeLine := Nat.le_trans h (by decide)
theorem se_tup {ta : TA} {a : AD} (ha : SD g E ta a) : SE g E (tTup ta) (aTup a) := fun s Q ok h =>
  ha s _ ok ((Aft.bind h).mono fun ds F1 H1 W1 ρ1 ok1 go1 h1 vs rs => by
    split at h1
    · rename_i c
      exact ⟨by rw [rs.length]; exact sz_of c, new_tup (s := ⟨F1, H1, W1, s.σ, ρ1⟩) ok1 rs fun v F H ok' go' r' => h1 F H W1 ok' go' v r'⟩
    · exact h1.elim)
theorem se_lst {ta : TA} {a : AD} (ha : SD g E ta a) : SE g E (tLst ta) (aLst a) := fun s Q ok h =>
  ha s _ ok ((Aft.bind h).mono fun ds F1 H1 W1 ρ1 ok1 go1 h1 vs rs => by
    split at h1
    · rename_i c
      exact ⟨by rw [rs.length]; exact sz_of c, new_lst (s := ⟨F1, H1, W1, s.σ, ρ1⟩) ok1 rs fun v F H ok' go' r' => h1 F H W1 ok' go' v r'⟩
    · exact h1.elim)
/-! ### built-ins on data -/
def CS (g : G) (r : List V → Hp → VK → Prop) (f : List D → Option D) : Prop := ∀ (s : S) (vs : List V) (ds : List D) (d : D) (Q : VK), s.Ok g → RepL g.K s.F vs ds → f ds = some d →
  (∀ v F H, (S.mk F H s.W s.σ s.ρ).Ok g → Go s ⟨F, H, s.W, s.σ, s.ρ⟩ → Rep g.K F v d → Q v H) → r vs s.H Q
def aCB (f : List D → Option D) (a : AD) : AE := fun ρ => (a ρ).bind fun ds ρ1 => lift (f ds) ρ1
theorem se_cb {r : List V → Hp → VK → Prop} {f : List D → Option D} {ta : TA} {a : AD} (hr : CS g r f) (ha : SD g E ta a) : SE g E (tCB r ta) (aCB f a) := fun s Q ok h =>
  ha s _ ok ((Aft.bind h).mono fun ds F1 H1 W1 ρ1 ok1 go1 h1 vs rs => by
    obtain ⟨d, hf, k⟩ := h1.lift
    exact hr ⟨F1, H1, W1, s.σ, ρ1⟩ vs ds d Q ok1 rs hf fun v F H ok' go' r' => k F H W1 ok' go' v r')
theorem CS.sc {r : List V → Hp → VK → Prop} {f : List D → Option D} (h : ∀ (F H : Hp) (vs : List V) (ds : List D) (d : D) (Q : VK), Ex F H → RepL g.K F vs ds → f ds = some d → (∀ v, Rep g.K F v d → Q v H) → r vs H Q) : CS g r f :=
  fun s vs ds d Q ok rs hf k => h s.F s.H vs ds d Q ok.ex rs hf fun v rv => k v s.F s.H ok (Go.refl s) rv
def oLen : List D → Option D
  | [.list a] => some (.int a.length)
  | [.tuple a] => some (.int a.length)
  | [.str x] => if x.length ≤ sizeLine then some (.int x.length) else none
  | _ => none
theorem cs_len : CS g (fun xs H Q => ∃ x n, xs = [x] ∧ LenV g.K x H n ∧ Q (.int n) H) oLen := CS.sc fun F H vs ds d Q e rs hf k => by
  unfold oLen at hf
  split at hf
  · cases hf
    cases rs with | cons r1 r2 =>
    cases r2
    cases r1 with | lst h r =>
    exact ⟨_, _, rfl, .inl ⟨_, sqL_of (e _ _ h), rfl⟩, by rw [r.length]; exact k _ (.int _)⟩
  · cases hf
    cases rs with | cons r1 r2 =>
    cases r2
    cases r1 with | tup h r =>
    exact ⟨_, _, rfl, .inr ⟨_, e.sqT h, rfl⟩, by rw [r.length]; exact k _ (.int _)⟩
  · split at hf
    · cases hf
      cases rs with | cons r1 r2 =>
      cases r2
      cases r1
      exact ⟨_, _, rfl, ⟨by assumption, rfl⟩, k _ (.int _)⟩
    · cases hf
  · cases hf
def oAbs : List D → Option D
  | [.int i] => some (.int (if i < 0 then -i else i))
  | _ => none
theorem cs_abs : CS g (fun xs H Q => ∃ i, xs = [.int i] ∧ Q (.int (if i < 0 then -i else i)) H) oAbs := CS.sc fun F H vs ds d Q e rs hf k => by
  unfold oAbs at hf
  split at hf
  · cases hf
    cases rs with | cons r1 r2 =>
    cases r2
    cases r1
    exact ⟨_, rfl, k _ (.int _)⟩
  · cases hf
def oMax2 : List D → Option D
  | [.int i, .int j] => some (.int (max i j))
  | _ => none
def oMin2 : List D → Option D
  | [.int i, .int j] => some (.int (min i j))
  | _ => none
theorem cs_max2 : CS g (fun xs H Q => ∃ i j, xs = [.int i, .int j] ∧ Q (.int (if j > i then j else i)) H) oMax2 := CS.sc fun F H vs ds d Q e rs hf k => by
  unfold oMax2 at hf
  split at hf
  · cases hf
    rename_i i j
    cases rs with | cons r1 r2 =>
    cases r2 with | cons r2 r3 =>
    cases r3; cases r1; cases r2
    have e : (if j > i then j else i) = max i j := by omega
    exact ⟨_, _, rfl, by rw [e]; exact k _ (.int _)⟩
  · cases hf
theorem cs_min2 : CS g (fun xs H Q => ∃ i j, xs = [.int i, .int j] ∧ Q (.int (if j < i then j else i)) H) oMin2 := CS.sc fun F H vs ds d Q e rs hf k => by
  unfold oMin2 at hf
  split at hf
  · cases hf
    rename_i i j
    cases rs with | cons r1 r2 =>
    cases r2 with | cons r2 r3 =>
    cases r3; cases r1; cases r2
    have e : (if j < i then j else i) = min i j := by omega
    exact ⟨_, _, rfl, by rw [e]; exact k _ (.int _)⟩
  · cases hf
/-- the dints of a list of dints -/
def dints : List D → Option (List Int)
  | [] => some []
  | .int i :: r => (dints r).map (i :: ·)
  | _ :: _ => none
theorem dints_map : ∀ ns : List Int, dints (ns.map .int) = some ns
  | [] => rfl
  | n :: ns => by show (dints (ns.map .int)).map (n :: ·) = _; rw [dints_map ns]; rfl
theorem dints_eq : ∀ {ds : List D} {ns : List Int}, dints ds = some ns → ds = ns.map .int
  | [], ns, h => by cases h; rfl
  | .int i :: r, ns, h => by
    obtain ⟨m, hm, rfl⟩ := Option.map_eq_some_iff.mp (show (dints r).map (i :: ·) = some ns from h)
    rw [dints_eq hm]; rfl
  | .none :: _, _, h | .bool _ :: _, _, h | .str _ :: _, _, h | .list _ :: _, _, h | .tuple _ :: _, _, h | .dict _ :: _, _, h => by cases h
def bls : List D → Option (List Bool)
  | [] => some []
  | .bool i :: r => (bls r).map (i :: ·)
  | _ :: _ => none
theorem bls_map : ∀ ns : List Bool, bls (ns.map .bool) = some ns
  | [] => rfl
  | n :: ns => by show (bls (ns.map .bool)).map (n :: ·) = _; rw [bls_map ns]; rfl
theorem bls_eq : ∀ {ds : List D} {ns : List Bool}, bls ds = some ns → ds = ns.map .bool
  | [], ns, h => by cases h; rfl
  | .bool i :: r, ns, h => by
    obtain ⟨m, hm, rfl⟩ := Option.map_eq_some_iff.mp (show (bls r).map (i :: ·) = some ns from h)
    rw [bls_eq hm]; rfl
  | .none :: _, _, h | .int _ :: _, _, h | .str _ :: _, _, h | .list _ :: _, _, h | .tuple _ :: _, _, h | .dict _ :: _, _, h => by cases h
def maxL : List Int → Int
  | [] => 0
  | [a] => a
  | a :: r => max a (maxL r)
def minL : List Int → Int
  | [] => 0
  | [a] => a
  | a :: r => min a (minL r)
theorem maxL_le : ∀ {l : List Int} {y : Int}, y ∈ l → y ≤ maxL l
  | [], y, h => by cases h
  | [a], y, h => by
    have : y = a := by simpa using h
    rw [this]; exact Int.le_refl _
  | a :: b :: r, y, h => by
    show y ≤ max a (maxL (b :: r))
    rcases List.mem_cons.mp h with h | h
    · omega
    · have := maxL_le h; omega
theorem maxL_mem : ∀ {l : List Int}, l ≠ [] → maxL l ∈ l
  | [], h => absurd rfl h
  | [a], _ => List.mem_cons_self
  | a :: b :: r, _ => by
    show max a (maxL (b :: r)) ∈ a :: b :: r
    have := maxL_mem (l := b :: r) (fun q => nomatch q)
    by_cases c : a ≤ maxL (b :: r)
    · rw [Int.max_eq_right c]; exact List.mem_cons_of_mem _ this
    · rw [Int.max_eq_left (by omega)]; exact List.mem_cons_self
theorem minL_le : ∀ {l : List Int} {y : Int}, y ∈ l → minL l ≤ y
  | [], y, h => by cases h
  | [a], y, h => by
    have : y = a := by simpa using h
    rw [this]; exact Int.le_refl _
  | a :: b :: r, y, h => by
    show min a (minL (b :: r)) ≤ y
    rcases List.mem_cons.mp h with h | h
    · omega
    · have := minL_le h; omega
theorem minL_mem : ∀ {l : List Int}, l ≠ [] → minL l ∈ l
  | [], h => absurd rfl h
  | [a], _ => List.mem_cons_self
  | a :: b :: r, _ => by
    show min a (minL (b :: r)) ∈ a :: b :: r
    have := minL_mem (l := b :: r) (fun q => nomatch q)
    by_cases c : a ≤ minL (b :: r)
    · rw [Int.min_eq_left c]; exact List.mem_cons_self
    · rw [Int.min_eq_right (by omega)]; exact List.mem_cons_of_mem _ this
theorem maxL_uniq {l : List Int} {m : Int} (h : m ∈ l) (hb : ∀ y ∈ l, y ≤ m) : m = maxL l := by
  have h1 := maxL_le h
  have h2 := hb _ (maxL_mem (l := l) (fun q => by rw [q] at h; cases h))
  omega
theorem minL_uniq {l : List Int} {m : Int} (h : m ∈ l) (hb : ∀ y ∈ l, m ≤ y) : m = minL l := by
  have h1 := minL_le h
  have h2 := hb _ (minL_mem (l := l) (fun q => by rw [q] at h; cases h))
  omega
def oInts (f : List Int → Option D) : List D → Option D
  | [.list a] => (dints a).bind f
  | _ => none
theorem oInts_inv {f : List Int → Option D} {ds : List D} {d : D} (h : oInts f ds = some d) : ∃ ns, ds = [.list (ns.map .int)] ∧ f ns = some d := by
  unfold oInts at h
  split at h
  · obtain ⟨ns, h1, h2⟩ := Option.bind_eq_some_iff.mp h
    exact ⟨ns, by rw [dints_eq h1], h2⟩
  · cases h
theorem rep_ints {K : Fr} {F H : Hp} {vs : List V} {ns : List Int} (e : Ex F H) (rs : RepL K F vs [.list (ns.map .int)]) : ∃ a, vs = [.ref a] ∧ SqL K H a (ns.map V.int) := by
  cases rs with | cons r1 r2 =>
  cases r2
  cases r1 with | lst h r =>
  rw [r.ints] at h
  exact ⟨_, rfl, sqL_of (e _ _ h)⟩
def oSum := oInts fun ns => some (.int ns.sum)
def oMax := oInts fun ns => if ns = [] then none else some (.int (maxL ns))
def oMin := oInts fun ns => if ns = [] then none else some (.int (minL ns))
theorem cs_sum : CS g (rSum g.K) oSum := CS.sc fun F H vs ds d Q e rs hf k => by
  obtain ⟨ns, rfl, h⟩ := oInts_inv hf
  cases h
  obtain ⟨a, rfl, ha⟩ := rep_ints e rs
  exact ⟨a, ns, rfl, ha, k _ (.int _)⟩
theorem cs_max : CS g (rMax g.K) oMax := CS.sc fun F H vs ds d Q e rs hf k => by
  obtain ⟨ns, rfl, h⟩ := oInts_inv hf
  split at h
  · cases h
  · rename_i c
    cases h
    obtain ⟨a, rfl, ha⟩ := rep_ints e rs
    exact ⟨a, ns, rfl, ha, List.length_pos_iff.mpr c, fun m hm hb => by rw [maxL_uniq hm hb]; exact k _ (.int _)⟩
theorem cs_min : CS g (rMin g.K) oMin := CS.sc fun F H vs ds d Q e rs hf k => by
  obtain ⟨ns, rfl, h⟩ := oInts_inv hf
  split at h
  · cases h
  · rename_i c
    cases h
    obtain ⟨a, rfl, ha⟩ := rep_ints e rs
    exact ⟨a, ns, rfl, ha, List.length_pos_iff.mpr c, fun m hm hb => by rw [minL_uniq hm hb]; exact k _ (.int _)⟩
def oAll : List D → Option D
  | [.list a] => (bls a).map fun bs => .bool (bs.all id)
  | _ => none
theorem cs_all : CS g (rAll g.K) oAll := CS.sc fun F H vs ds d Q e rs hf k => by
  unfold oAll at hf
  split at hf
  · obtain ⟨bs, h1, rfl⟩ := Option.map_eq_some_iff.mp hf
    rw [bls_eq h1] at rs
    cases rs with | cons r1 r2 =>
    cases r2
    cases r1 with | lst h r =>
    rw [r.bls] at h
    exact ⟨_, bs, rfl, sqL_of (e _ _ h), k _ (.bl _)⟩
  · cases hf
def oTupleOf : List D → Option D
  | [.list a] => some (.tuple a)
  | [.tuple a] => some (.tuple a)
  | _ => none
theorem cs_tuple : CS g (fun xs H Q => ∃ p ys, xs = [.ref p] ∧ ((SqL g.K H p ys ∧ ∀ l, H l = none → Q (.ref l) (upd H l (.tup ys))) ∨ (SqT g.K H p ys ∧ Q (.ref p) H))) oTupleOf := fun s vs ds d Q ok rs hf k => by
  unfold oTupleOf at hf
  split at hf
  · cases hf
    cases rs with | cons r1 r2 =>
    cases r2
    cases r1 with | lst h r =>
    exact ⟨_, _, rfl, .inl ⟨sqL_of (ok.ex _ _ h), new_tup ok r k⟩⟩
  · cases hf
    cases rs with | cons r1 r2 =>
    cases r2
    cases r1 with | tup h r =>
    exact ⟨_, _, rfl, .inr ⟨ok.ex.sqT h, k _ s.F s.H ok (Go.refl s) (.tup h r)⟩⟩
  · cases hf
def oListOf : List D → Option D
  | [.list a] => some (.list a)
  | [.tuple a] => some (.list a)
  | _ => none
theorem cs_list : CS g (fun xs H Q => ∃ p ys, xs = [.ref p] ∧ (SqL g.K H p ys ∨ SqT g.K H p ys) ∧ ∀ l, H l = none → Q (.ref l) (upd H l (.lst ys))) oListOf := fun s vs ds d Q ok rs hf k => by
  unfold oListOf at hf
  split at hf
  · cases hf
    cases rs with | cons r1 r2 =>
    cases r2
    cases r1 with | lst h r =>
    exact ⟨_, _, rfl, .inl (sqL_of (ok.ex _ _ h)), new_lst ok r k⟩
  · cases hf
    cases rs with | cons r1 r2 =>
    cases r2
    cases r1 with | tup h r =>
    exact ⟨_, _, rfl, .inr (ok.ex.sqT h), new_lst ok r k⟩
  · cases hf
def sortI (ns : List Int) : List Int := ns.mergeSort fun x y => decide (x ≤ y)
def oSorted := oInts fun ns => some (.list ((sortI ns).map .int))
theorem cs_sorted : CS g (rSortedI g.K) oSorted := fun s vs ds d Q ok rs hf k => by
  obtain ⟨ns, rfl, h⟩ := oInts_inv hf
  cases h
  obtain ⟨a, rfl, ha⟩ := rep_ints ok.ex rs
  refine ⟨a, ns, rfl, ha, fun ns' p hp ho hn => ?_⟩
  have e : ns' = sortI ns := PySem.W.os_sorted_mergeSort hp ho
  rw [e]
  exact new_lst ok (RepL.of_ints _) k p hn
def oInt1 : List D → Option D
  | [.int i] => some (.int i)
  | [.bool b] => some (.int (if b then 1 else 0))
  | _ => none
theorem cs_int1 : CS g (fun xs H Q => (∃ i, xs = [.int i] ∧ Q (.int i) H) ∨ ∃ k, xs = [.bl k] ∧ Q (.int (if k then 1 else 0)) H) oInt1 := CS.sc fun F H vs ds d Q e rs hf k => by
  unfold oInt1 at hf
  split at hf
  · cases hf
    cases rs with | cons r1 r2 =>
    cases r2; cases r1
    exact .inl ⟨_, rfl, k _ (.int _)⟩
  · cases hf
    cases rs with | cons r1 r2 =>
    cases r2; cases r1
    exact .inr ⟨_, rfl, k _ (.int _)⟩
  · cases hf
/-! isinstance of a built-in class -/
def tyD : D → String
  | .none => "NoneType"
  | .bool _ => "bool"
  | .int _ => "int"
  | .str _ => "str"
  | .list _ => "list"
  | .tuple _ => "tuple"
  | .dict _ => "dict"
theorem tyX_of {F H : Hp} {x : V} {d : D} (e : Ex F H) (r : Rep g.K F x d) : TyX g.K H x (.type (tyD d)) := by
  cases r with
  | non => exact .base .non
  | bl b => exact .base (.bl b)
  | int i => exact .base (.int i)
  | str x => exact .base (.str x)
  | lst h r => exact .base (.lst (e _ _ h))
  | tup h r =>
    rcases h with (h | ⟨o, h⟩) | ⟨o, its, n, h, hc, _⟩
    · exact .base (.tup (e _ _ h))
    · exact .fTuple (e _ _ h)
    · exact .kTuple h hc
  | dic h r => exact .base (.dK (e _ _ h))
def aIsi (T : String) (a : AE) : AE := fun ρ => (a ρ).bind fun d ρ1 => lift ((kitB (tyD d) T).map .bool) ρ1
theorem se_isi {te : TE} {a : AE} {T : String} (ha : SE g E te a) : SE g E (tCB (rIsi g.K) (tCons te (tCons (tC (.ty T)) tNil))) (aIsi T a) := fun s Q ok h =>
  ha s _ ok ((Aft.bind h).mono fun d F1 H1 W1 ρ1 ok1 go1 h1 v rv => by
    obtain ⟨d', hf, k⟩ := h1.lift
    obtain ⟨b, hb, rfl⟩ := Option.map_eq_some_iff.mp hf
    exact ⟨v, .ty T, _, _, b, rfl, .ty T, tyX_of ok1.ex rv, kit_ty hb, k F1 H1 W1 ok1 (Go.refl _) _ (.bl _)⟩)
/-! ### truth, and, or, not -/
def aTest (a : AE) : AT := fun ρ => (a ρ).bind fun d ρ1 => match d with | .bool b => .ok b ρ1 | _ => .bad
theorem st_test {te : TE} {a : AE} (ha : SE g E te a) : ST g E (tTest te) (aTest a) := fun s Q ok h =>
  ha s _ ok ((Aft.bind h).mono fun d F1 H1 W1 ρ1 ok1 go1 h1 v rv => by
    cases d with
    | bool b => cases rv; exact ⟨b, rfl, Aft.here (s := ⟨F1, H1, W1, s.σ, ρ1⟩) ok1 h1⟩
    | _ => exact h1.elim)
theorem st_B {te : TE} {a : AE} (ha : SE g E te a) : ST g E (tB te) (aTest a) := st_test ha
def aAnd (a b : AT) : AT := fun ρ => (a ρ).bind fun c ρ1 => if c = true then b ρ1 else .ok false ρ1
def aOr (a b : AT) : AT := fun ρ => (a ρ).bind fun c ρ1 => if c = true then .ok true ρ1 else b ρ1
def aNot (a : AT) : AT := fun ρ => (a ρ).bind fun c ρ1 => .ok (!c) ρ1
theorem st_and {t u : TT} {a b : AT} (ha : ST g E t a) (hb : ST g E u b) : ST g E (tAnd t u) (aAnd a b) := fun s Q ok h =>
  ha s _ ok ((Aft.bind h).mono fun c F1 H1 W1 ρ1 ok1 go1 h1 => by
    cases c with
    | true => exact hb ⟨F1, H1, W1, s.σ, ρ1⟩ _ ok1 h1
    | false => exact Aft.here (s := ⟨F1, H1, W1, s.σ, ρ1⟩) ok1 h1)
theorem st_or {t u : TT} {a b : AT} (ha : ST g E t a) (hb : ST g E u b) : ST g E (tOr t u) (aOr a b) := fun s Q ok h =>
  ha s _ ok ((Aft.bind h).mono fun c F1 H1 W1 ρ1 ok1 go1 h1 => by
    cases c with
    | false => exact hb ⟨F1, H1, W1, s.σ, ρ1⟩ _ ok1 h1
    | true => exact Aft.here (s := ⟨F1, H1, W1, s.σ, ρ1⟩) ok1 h1)
theorem st_not {t : TT} {a : AT} (ha : ST g E t a) : ST g E (tNot t) (aNot a) := fun s Q ok h =>
  ha s _ ok ((Aft.bind h).mono fun c F1 H1 W1 ρ1 ok1 go1 h1 => Aft.here (s := ⟨F1, H1, W1, s.σ, ρ1⟩) ok1 h1)
def aAndV (a b : AE) : AE := fun ρ => (aTest a ρ).bind fun c ρ1 => if c = true then b ρ1 else .ok (.bool false) ρ1
def aOrV (a b : AE) : AE := fun ρ => (aTest a ρ).bind fun c ρ1 => if c = true then .ok (.bool true) ρ1 else b ρ1
def aNotV (a : AE) : AE := fun ρ => (aTest a ρ).bind fun c ρ1 => .ok (.bool (!c)) ρ1
theorem se_andV {t u : TE} {a b : AE} (ha : SE g E t a) (hb : SE g E u b) : SE g E (tAndV t u) (aAndV a b) := fun s Q ok h =>
  st_test ha s (fun c H1 => if c = true then u s.σ H1 Q else Q (.bl false) H1) ok ((Aft.bind h).mono fun c F1 H1 W1 ρ1 ok1 go1 h1 => by
    cases c with
    | true => exact hb ⟨F1, H1, W1, s.σ, ρ1⟩ _ ok1 h1
    | false => exact Aft.here (s := ⟨F1, H1, W1, s.σ, ρ1⟩) ok1 h1 _ (.bl _))
theorem se_orV {t u : TE} {a b : AE} (ha : SE g E t a) (hb : SE g E u b) : SE g E (tOrV t u) (aOrV a b) := fun s Q ok h =>
  st_test ha s (fun c H1 => if c = true then Q (.bl true) H1 else u s.σ H1 Q) ok ((Aft.bind h).mono fun c F1 H1 W1 ρ1 ok1 go1 h1 => by
    cases c with
    | false => exact hb ⟨F1, H1, W1, s.σ, ρ1⟩ _ ok1 h1
    | true => exact Aft.here (s := ⟨F1, H1, W1, s.σ, ρ1⟩) ok1 h1 _ (.bl _))
theorem se_notV {t : TE} {a : AE} (ha : SE g E t a) : SE g E (tNotV t) (aNotV a) := fun s Q ok h =>
  st_test ha s (fun c H1 => Q (.bl (!c)) H1) ok ((Aft.bind h).mono fun c F1 H1 W1 ρ1 ok1 go1 h1 => Aft.here (s := ⟨F1, H1, W1, s.σ, ρ1⟩) ok1 h1 _ (.bl _))
def aIf (c : AT) (a b : AE) : AE := fun ρ => (c ρ).bind fun x ρ1 => if x = true then a ρ1 else b ρ1
theorem se_if {t : TT} {u w : TE} {c : AT} {a b : AE} (hc : ST g E t c) (ha : SE g E u a) (hb : SE g E w b) : SE g E (tIf t u w) (aIf c a b) := fun s Q ok h =>
  hc s _ ok ((Aft.bind h).mono fun c F1 H1 W1 ρ1 ok1 go1 h1 => by
    cases c with
    | true => exact ha ⟨F1, H1, W1, s.σ, ρ1⟩ _ ok1 h1
    | false => exact hb ⟨F1, H1, W1, s.σ, ρ1⟩ _ ok1 h1)
/-- a OP b OP' c -/
def aChain (f f' : D → D → Option D) (a b c : AE) : AE := fun ρ => (a ρ).bind fun d1 ρ1 => (b ρ1).bind fun d2 ρ2 => match f d1 d2 with
  | some (.bool true) => (c ρ2).bind fun d3 ρ3 => lift (f' d2 d3) ρ3
  | some (.bool false) => .ok (.bool false) ρ2
  | _ => .bad
theorem se_chain {r r' : R2} {f f' : D → D → Option D} {ta tb tc : TE} {a b c : AE} (hr : RS g r f) (hr' : RS g r' f') (ha : SE g E ta a) (hb : SE g E tb b) (hc : SE g E tc c) : SE g E (tChain r r' ta tb tc) (aChain f f' a b c) := fun s Q ok h =>
  ha s _ ok ((Aft.bind h).mono fun d1 F1 H1 W1 ρ1 ok1 go1 h1 v1 r1 =>
    hb ⟨F1, H1, W1, s.σ, ρ1⟩ _ ok1 ((Aft.bind h1).mono fun d2 F2 H2 W2 ρ2 ok2 go2 h2 v2 r2 => by
      split at h2
      · rename_i e
        refine hr ⟨F2, H2, W2, s.σ, ρ2⟩ v1 v2 d1 d2 _ _ ok2 (r1.mono go2.f) r2 e fun v F H ok3 go3 r3 => ?_
        cases r3
        refine ⟨true, rfl, ?_⟩
        have h2' : Aft g E ⟨F, H, W2, s.σ, ρ2⟩ ((c ρ2).bind fun d3 ρ3 => lift (f' d2 d3) ρ3) (fun d t => ∀ v, Rep g.K t.F v d → Q v t.H) := by
          revert h2
          cases (c ρ2).bind fun d3 ρ3 => lift (f' d2 d3) ρ3 with
          | ok d ρ' => exact fun h2 F' H' W' ok' go' => h2 F' H' W' ok' (go3.trans go')
          | exc x ρ' => exact fun h2 F' H' W' ok' go' => h2 F' H' W' ok' (go3.trans go')
          | bad => exact fun h2 => h2
        refine iteT (hc ⟨F, H, W2, s.σ, ρ2⟩ _ ok3 ((Aft.bind h2').mono fun d3 F4 H4 W4 ρ4 ok4 go4 h4 v4 r4 => ?_))
        obtain ⟨d, hf, k⟩ := h4.lift
        exact hr' ⟨F4, H4, W4, s.σ, ρ4⟩ v2 v4 d2 d3 d Q ok4 (r2.mono (go3.f.trans go4.f)) r4 hf fun v F H ok5 go5 r5 => k F H _ ok5 go5 v r5
      · rename_i e
        refine hr ⟨F2, H2, W2, s.σ, ρ2⟩ v1 v2 d1 d2 _ _ ok2 (r1.mono go2.f) r2 e fun v F H ok3 go3 r3 => ?_
        cases r3
        exact ⟨false, rfl, iteF (h2 F H W2 ok3 go3 _ (.bl _))⟩
      · exact h2.elim))
end
end DL

namespace DL
open PySem PySem.Spec PyProof.Rows L2

section
variable {g : G} {E : EX}
/-! ### a name whose list is still being built, read -/
theorem own_at {s : S} {i : Nat} {d : D} (ok : s.Ok g) (h : sl s.ρ i = .own d) : ∃ v, s.σ[i]? = some (some v) ∧ ((∃ p vs ds, d = .list ds ∧ v = .ref p ∧ s.H p = some (.lst vs) ∧ RepL g.K s.F vs ds) ∨ (∃ p kvs es, d = .dict es ∧ v = .ref p ∧ s.H p = some (.dK kvs) ∧ RepK g.K s.F kvs es)) := by
  obtain ⟨O, _, _, h3⟩ := ok.sl
  have h4 := h3 i _ (sl_get h fun q => nomatch q)
  have sg : ∀ p, s.σ[i]?.join = some (V.ref p) → s.σ[i]? = some (some (V.ref p)) := fun p q => by
    cases e : s.σ[i]? with
    | none => rw [e] at q; cases q
    | some u => rw [e] at q; exact congrArg some q
  cases d with
  | list ds =>
    obtain ⟨p, vs, h5, _, h6, h7⟩ := h4
    exact ⟨.ref p, sg p h5, .inl ⟨p, vs, ds, rfl, rfl, h6, h7⟩⟩
  | dict es =>
    obtain ⟨p, vs, h5, _, h6, h7⟩ := h4
    exact ⟨.ref p, sg p h5, .inr ⟨p, vs, es, rfl, rfl, h6, h7⟩⟩
  | none => exact h4.elim
  | bool b => exact h4.elim
  | int b => exact h4.elim
  | str b => exact h4.elim
  | tuple b => exact h4.elim
def aOBin (f : D → D → Option D) (i : Nat) (b : AE) : AE := fun ρ => match sl ρ i with
  | .own _ => (b ρ).bind fun d2 ρ2 => match sl ρ2 i with
    | .own d1 => lift (f d1 d2) ρ2
    | _ => .bad
  | _ => .bad
def OS (g : G) (r : R2) (f : D → D → Option D) : Prop := ∀ (s : S) (p : Addr) (vs : List V) (ds : List D) (y : V) (d2 d : D) (Q : VK), s.Ok g → s.H p = some (.lst vs) → RepL g.K s.F vs ds → Rep g.K s.F y d2 → f (.list ds) d2 = some d →
  (∀ v F H, (S.mk F H s.W s.σ s.ρ).Ok g → Go s ⟨F, H, s.W, s.σ, s.ρ⟩ → Rep g.K F v d → Q v H) → r (.ref p) y s.H Q
theorem se_obin {r : R2} {f : D → D → Option D} {i : Nat} {tb : TE} {b : AE} (hr : OS g r f) (hd : ∀ es d, f (.dict es) d = none) (hb : SE g E tb b) : SE g E (tOp r (tVar i) tb) (aOBin f i b) := fun s Q ok h => by
  unfold aOBin at h
  split at h
  · rename_i d0 e0
    obtain ⟨v, hv, hw⟩ := own_at ok e0
    refine ⟨v, hv, ?_⟩
    refine hb s _ ok ((Aft.bind h).mono fun d2 F2 H2 W2 ρ2 ok2 go2 h2 v2 r2 => ?_)
    dsimp only at h2
    split at h2
    · rename_i d1 e1
      obtain ⟨v', hv', hw'⟩ := own_at (s := ⟨F2, H2, W2, s.σ, ρ2⟩) ok2 e1
      have ev : v = v' := by
        have : (some (some v)) = some (some v') := hv.symm.trans hv'
        simpa using this
      subst ev
      obtain ⟨d, hf, k⟩ := h2.lift
      rcases hw' with ⟨p, vs, ds, rfl, rfl, hp, hr'⟩ | ⟨p, kvs, es, rfl, rfl, hp, hr'⟩
      · exact hr ⟨F2, H2, W2, s.σ, ρ2⟩ p vs ds v2 d2 d Q ok2 hp hr' r2 hf fun v F H ok3 go3 r3 => k F H _ ok3 go3 v r3
      · rw [hd] at hf; cases hf
    · exact h2.elim
  · exact h.elim
theorem os_idx : OS g (rIx g.K) oIdx := fun s p vs ds y d2 d Q ok hp r1 r2 hf k => by
  unfold oIdx at hf
  split at hf
  · rename_i e
    cases e
    cases r2
    obtain ⟨v, hv, rv⟩ := atI_rep r1 hf
    exact .inl ⟨_, _, _, v, rfl, rfl, sqL_of hp, hv, k _ s.F s.H ok (Go.refl s) rv⟩
  · rename_i e; cases e
  · rename_i e; cases e
  · cases hf
theorem os_eq : OS g (rEqD g.K) oEq := fun s p vs ds y d2 d Q ok hp r1 r2 hf k => by
  unfold oEq at hf
  split at hf
  · rename_i c
    cases hf
    have c1 := SeqAt.canLay_of_shaped c.1
    refine ⟨.list ds, d2, .lst (sqL_of hp) ((r1.mono ok.ex).dp (by simpa [PyData.canLay0] using c1)), (r2.mono ok.ex).dp (SeqAt.canLay_of_shaped c.2), c.1, c.2, k _ s.F s.H ok (Go.refl s) (.bl _)⟩
  · cases hf
theorem os_ne : OS g (rNeD g.K) oNe := fun s p vs ds y d2 d Q ok hp r1 r2 hf k => by
  unfold oNe at hf
  split at hf
  · rename_i c
    cases hf
    have c1 := SeqAt.canLay_of_shaped c.1
    refine ⟨.list ds, d2, .lst (sqL_of hp) ((r1.mono ok.ex).dp (by simpa [PyData.canLay0] using c1)), (r2.mono ok.ex).dp (SeqAt.canLay_of_shaped c.2), c.1, c.2, k _ s.F s.H ok (Go.refl s) (.bl _)⟩
  · cases hf
/-- len of such a list -/
def aLenO (i : Nat) : AE := fun ρ => match sl ρ i with
  | .own (.list ds) => .ok (.int ds.length) ρ
  | _ => .bad
theorem se_lenO {i : Nat} : SE g E (tCB (fun xs H Q => ∃ x n, xs = [x] ∧ LenV g.K x H n ∧ Q (.int n) H) (tCons (tVar i) tNil)) (aLenO i) := fun s Q ok h => by
  unfold aLenO at h
  split at h
  · rename_i ds e0
    obtain ⟨v, hv, hw⟩ := own_at ok e0
    rcases hw with ⟨p, vs, ds', q, rfl, hp, hr⟩ | ⟨p, kvs, es, q, _⟩
    · cases q
      exact ⟨_, hv, _, _, rfl, .inl ⟨_, sqL_of hp, rfl⟩, by rw [hr.length]; exact Aft.here (s := s) ok h _ (.int _)⟩
    · cases q
  · exact h.elim
/-- its slice -/
def aSlO (i : Nat) (l h : AO) : AE := fun ρ => match sl ρ i with
  | .own _ => (l ρ).bind fun lo ρ2 => (h ρ2).bind fun hi ρ3 => match sl ρ3 i with
    | .own (.list ds) => .ok (.list (cutG ds lo hi)) ρ3
    | _ => .bad
  | _ => .bad
theorem se_slO {i : Nat} {tl th : TO} {l r : AO} (hl : SO g E tl l) (hr : SO g E th r) : SE g E (tSl (rSlAny g.K) (tVar i) tl th) (aSlO i l r) := fun s Q ok h => by
  unfold aSlO at h
  split at h
  · rename_i d0 e0
    obtain ⟨v, hv, hw⟩ := own_at ok e0
    refine ⟨v, hv, ?_⟩
    refine hl s _ ok ((Aft.bind h).mono fun lo F2 H2 W2 ρ2 ok2 go2 h2 =>
      hr ⟨F2, H2, W2, s.σ, ρ2⟩ _ ok2 ((Aft.bind h2).mono fun hi F3 H3 W3 ρ3 ok3 go3 h3 => ?_))
    dsimp only at h3
    split at h3
    · rename_i ds e1
      obtain ⟨v', hv', hw'⟩ := own_at (s := ⟨F3, H3, W3, s.σ, ρ3⟩) ok3 e1
      have ev : v = v' := by
        have : (some (some v)) = some (some v') := hv.symm.trans hv'
        simpa using this
      subst ev
      rcases hw' with ⟨p, vs, ds', q, rfl, hp, hr'⟩ | ⟨p, kvs, es, q, _⟩
      · cases q
        exact .inl ⟨_, _, rfl, sqL_of hp, new_lst (s := ⟨F3, H3, W3, s.σ, ρ3⟩) ok3 (cut_rep hr') fun v F H ok' go' r' => h3 F H W3 ok' go' v r'⟩
      · cases q
    · exact h3.elim
  · exact h.elim

/-! ### pins read -/
theorem pin_at {s : S} {i : Nat} {m : Mu} (ok : s.Ok g) (h : sl s.ρ i = .pin m) : ∃ v, s.σ[i]? = some (some v) ∧ ∃ P, SlOk g s.F s.H P (some v) (.pin m) := by
  obtain ⟨O, _, _, h3⟩ := ok.sl
  have h4 := h3 i _ (sl_get h fun q => nomatch q)
  cases e : s.σ[i]? with
  | none =>
    rw [e] at h4
    cases m with
    | town n => obtain ⟨_, q, _⟩ := h4; cases q
    | scr n => obtain ⟨_, q, _⟩ := h4; cases q
    | trk a b => obtain ⟨_, _, _, _, _, q, _⟩ := h4; cases q
    | exn k => obtain ⟨q, _⟩ := h4; cases q
    | fnc k => obtain ⟨_, q, _⟩ := h4; cases q
    | raw => obtain ⟨_, _, q, _⟩ := h4; cases q
    | half d => obtain ⟨_, _, _, q, _⟩ := h4; cases q
    | lst d => obtain ⟨_, _, q, _⟩ := h4; cases q
  | some u =>
    rw [e] at h4
    cases u with
    | none =>
      cases m with
      | town n => obtain ⟨_, q, _⟩ := h4; cases q
      | scr n => obtain ⟨_, q, _⟩ := h4; cases q
      | trk a b => obtain ⟨_, _, _, _, _, q, _⟩ := h4; cases q
      | exn k => obtain ⟨q, _⟩ := h4; cases q
      | fnc k => obtain ⟨_, q, _⟩ := h4; cases q
      | raw => obtain ⟨_, _, q, _⟩ := h4; cases q
      | half d => obtain ⟨_, _, _, q, _⟩ := h4; cases q
      | lst d => obtain ⟨_, _, q, _⟩ := h4; cases q
    | some v => exact ⟨v, rfl, O i, h4⟩
/-- len of the script, of the town -/
def aLenP (i : Nat) : AE := fun ρ => match sl ρ i with
  | .pin (.scr ns) => .ok (.int ns.length) ρ
  | .pin (.town n) => .ok (.int n) ρ
  | _ => .bad
theorem se_lenP {i : Nat} : SE g E (tCB (fun xs H Q => ∃ x n, xs = [x] ∧ LenV g.K x H n ∧ Q (.int n) H) (tCons (tVar i) tNil)) (aLenP i) := fun s Q ok h => by
  unfold aLenP at h
  split at h
  · rename_i ns e0
    obtain ⟨v, hv, P, a, ha, hs⟩ := pin_at ok e0
    cases ha
    refine ⟨_, hv, _, _, rfl, .inl ⟨_, ok.ex.sqL hs.sqL, rfl⟩, ?_⟩
    rw [List.length_map]
    exact Aft.here (s := s) ok h _ (.int _)
  · rename_i n e0
    obtain ⟨v, hv, P, p, ha, _, hs⟩ := pin_at ok e0
    cases ha
    refine ⟨_, hv, _, _, rfl, .inl ⟨_, sqL_of hs, rfl⟩, ?_⟩
    rw [List.length_replicate]
    exact Aft.here (s := s) ok h _ (.int _)
  · exact h.elim
/-- script[e], script == [] -/
def aScr (f : List Int → D → Option D) (i : Nat) (b : AE) : AE := fun ρ => match sl ρ i with
  | .pin (.scr ns) => (b ρ).bind fun d2 ρ2 => lift (f ns d2) ρ2
  | _ => .bad
def oScrIx (ns : List Int) : D → Option D
  | .int i => (atI ns i).map .int
  | _ => none
def oScrEq (ns : List Int) (d : D) : Option D := oEq (.list (ns.map .int)) d
theorem se_scr {r : R2} {f : List Int → D → Option D} {i : Nat} {tb : TE} {b : AE} (hr : ∀ (F H : Hp) (a : Addr) (ns : List Int) (y : V) (d2 d : D) (Q : VK), Ex F H → SqL g.K F a (ns.map V.int) → Rep g.K F y d2 → f ns d2 = some d → (∀ v, Rep g.K F v d → Q v H) → r (.ref a) y H Q)
    (hb : SE g E tb b) : SE g E (tOp r (tVar i) tb) (aScr f i b) := fun s Q ok h => by
  unfold aScr at h
  split at h
  · rename_i ns e0
    obtain ⟨v, hv, P, a, ha, hs⟩ := pin_at ok e0
    cases ha
    refine ⟨_, hv, hb s _ ok ((Aft.bind h).mono fun d2 F2 H2 W2 ρ2 ok2 go2 h2 v2 r2 => ?_)⟩
    obtain ⟨d, hf, k⟩ := h2.lift
    exact hr F2 H2 a ns v2 d2 d Q ok2.ex (go2.f.sqL hs.sqL) r2 hf (k F2 H2 W2 ok2 (Go.refl _))
  · exact h.elim
theorem atI_map {α β : Type} (f : α → β) (xs : List α) (i : Int) : atI (xs.map f) i = (atI xs i).map f := by
  unfold atI
  rw [List.length_map]
  cases ixN xs.length i with
  | none => rfl
  | some j => show (xs.map f)[j]? = (xs[j]?).map f; rw [List.getElem?_map]
theorem se_scrIx {i : Nat} {tb : TE} {b : AE} (hb : SE g E tb b) : SE g E (tOp (rIx g.K) (tVar i) tb) (aScr oScrIx i b) := se_scr (fun F H a ns y d2 d Q e hs r2 hf k => by
  unfold oScrIx at hf
  split at hf
  · obtain ⟨z, hz, rfl⟩ := Option.map_eq_some_iff.mp hf
    cases r2
    exact .inl ⟨a, _, _, .int z, rfl, rfl, e.sqL hs, by rw [atI_map, hz]; rfl, k _ (.int _)⟩
  · cases hf) hb
theorem se_scrEq {i : Nat} {tb : TE} {b : AE} (hb : SE g E tb b) : SE g E (tOp (rEqD g.K) (tVar i) tb) (aScr oScrEq i b) := se_scr (fun F H a ns y d2 d Q e hs r2 hf k => by
  unfold oScrEq oEq at hf
  split at hf
  · rename_i c
    cases hf
    have c1 := SeqAt.canLay_of_shaped c.1
    refine ⟨.list (ns.map .int), d2, .lst (e.sqL hs) ((RepL.of_ints (K := g.K) (F := H) ns).dp (by simpa [PyData.canLay0] using c1)), (r2.mono e).dp (SeqAt.canLay_of_shaped c.2), c.1, c.2, k _ (.bl _)⟩
  · cases hf) hb

/-! ### what is walked -/
abbrev AI := List Sl → Res (List D)
def ItOk (K : Fr) (F : Hp) (J : It) (ds : List D) : Prop := ∀ (i : Nat) (F1 H1 : Hp), Ex F F1 → Ex F1 H1 → (i < ds.length → J.go i H1) ∧ (ds.length = i → J.stop i H1) ∧
  ∀ x H2, J.yld i H1 x H2 → ∀ d, ds[i]? = some d → (H2 = H1 ∧ Rep K F1 x d) ∨ (∃ p o, H1 p = none ∧ H2 = upd H1 p o ∧ Rep K (upd F1 p o) x d) ∨ ∃ p o q u, H1 p = none ∧ upd H1 p o q = none ∧ H2 = upd (upd H1 p o) q u ∧ Rep K (upd (upd F1 p o) q u) x d
def SI (g : G) (E : EX) (wi : TI) (a : AI) : Prop := ∀ (s : S) (R : It → Hp → Prop), s.Ok g → Aft g E s (a s.ρ) (fun ds t => ∀ J, ItOk g.K t.F J ds → R J t.H) → wi s.σ s.H R
def aItL (a : AE) : AI := fun ρ => (a ρ).bind fun d ρ1 => match d with | .list ds => .ok ds ρ1 | _ => .bad
def aItT (a : AE) : AI := fun ρ => (a ρ).bind fun d ρ1 => match d with | .tuple ds => .ok ds ρ1 | _ => .bad
theorem RepL.getV_lt {K : Fr} {F : Hp} {vs : List V} {ds : List D} {i : Nat} (r : RepL K F vs ds) (h : i < ds.length) : ∃ v d, vs[i]? = some v ∧ ds[i]? = some d ∧ Rep K F v d := by
  obtain ⟨v, h1, h2⟩ := r.get (List.getElem?_eq_getElem h)
  exact ⟨v, _, h1, List.getElem?_eq_getElem h, h2⟩
theorem it_list {K : Fr} {F : Hp} {a : Addr} {vs : List V} {ds : List D} (h : SqL K F a vs) (r : RepL K F vs ds) : ItOk K F (Itl K a) ds := fun i F1 H1 e e1 => by
  have hs := (e.trans e1).sqL h
  refine ⟨fun hi => ?_, fun hi => ⟨vs, hs, by rw [r.length]; omega⟩, fun x H2 hy d hd => .inl ⟨hy.1, ?_⟩⟩
  · obtain ⟨v, d, h1, _⟩ := r.getV_lt hi
    exact ⟨vs, v, hs, h1⟩
  · obtain ⟨v, h1, h2⟩ := r.get hd
    have := hy.2 vs hs
    rw [h1] at this
    cases this
    exact h2.mono e
theorem it_tup {K : Fr} {F : Hp} {a : Addr} {vs : List V} {ds : List D} (h : SqT K F a vs) (r : RepL K F vs ds) : ItOk K F (Itt K a) ds := fun i F1 H1 e e1 => by
  have hs := (e.trans e1).sqT h
  refine ⟨fun hi => ?_, fun hi => ⟨vs, hs, by rw [r.length]; omega⟩, fun x H2 hy d hd => .inl ⟨hy.1, ?_⟩⟩
  · obtain ⟨v, d, h1, _⟩ := r.getV_lt hi
    exact ⟨vs, v, hs, h1⟩
  · obtain ⟨v, h1, h2⟩ := r.get hd
    have := hy.2 vs hs
    rw [h1] at this
    cases this
    exact h2.mono e
theorem si_list {te : TE} {a : AE} (ha : SE g E te a) : SI g E (iList g.K te) (aItL a) := fun s R ok h =>
  ha s _ ok ((Aft.bind h).mono fun d F1 H1 W1 ρ1 ok1 go1 h1 v rv => by
    cases d with
    | list ds =>
      cases rv with
      | lst h r => exact ⟨_, rfl, ⟨_, sqL_of (ok1.ex _ _ h)⟩, Aft.here (s := ⟨F1, H1, W1, s.σ, ρ1⟩) ok1 h1 _ (it_list (sqL_of h) r)⟩
    | _ => exact h1.elim)
theorem si_tup {te : TE} {a : AE} (ha : SE g E te a) : SI g E (iTup g.K te) (aItT a) := fun s R ok h =>
  ha s _ ok ((Aft.bind h).mono fun d F1 H1 W1 ρ1 ok1 go1 h1 v rv => by
    cases d with
    | tuple ds =>
      cases rv with
      | tup h r => exact ⟨_, rfl, ⟨_, ok1.ex.sqT h⟩, Aft.here (s := ⟨F1, H1, W1, s.σ, ρ1⟩) ok1 h1 _ (it_tup h r)⟩
    | _ => exact h1.elim)
def rangeD (lo : Int) (n : Nat) : List D := (List.range n).map fun (k : Nat) => .int (lo + k)
theorem rangeD_len (lo : Int) (n : Nat) : (rangeD lo n).length = n := by simp [rangeD]
theorem it_range {K : Fr} {F : Hp} (lo : Int) (n : Nat) : ItOk K F (Itr lo n) (rangeD lo n) := fun i F1 H1 e e1 => by
  rw [rangeD_len]
  refine ⟨fun hi => hi, fun hi => Nat.le_of_eq hi, fun x H2 hy d hd => .inl ⟨hy.1, ?_⟩⟩
  have hi : i < n := by
    have := (List.getElem?_eq_some_iff.mp hd).1
    rwa [rangeD_len] at this
  have e : d = .int (lo + i) := by
    unfold rangeD at hd
    rw [List.getElem?_map, List.getElem?_range hi] at hd
    exact (Option.some.inj hd).symm
  rw [hy.2, e]
  exact .int _
def inR (i : Int) : Bool := decide (-(2 ^ 62) ≤ i) && decide (i < 2 ^ 62)
theorem inR_of {i : Int} (h : inR i = true) : -(2 ^ 62) ≤ i ∧ i < 2 ^ 62 := by
  unfold inR at h
  rw [Bool.and_eq_true, decide_eq_true_eq, decide_eq_true_eq] at h
  exact h
def aRng1 (a : AD) : AI := fun ρ => (a ρ).bind fun ds ρ1 => match ds with
  | [.int j] => if inR j = true then .ok (rangeD 0 j.toNat) ρ1 else .bad
  | _ => .bad
def aRng2 (a : AD) : AI := fun ρ => (a ρ).bind fun ds ρ1 => match ds with
  | [.int i, .int j] => if inR i = true ∧ inR j = true then .ok (rangeD i (j - i).toNat) ρ1 else .bad
  | _ => .bad
theorem si_rng1 {ta : TA} {a : AD} (ha : SD g E ta a) : SI g E (iRng1 ta) (aRng1 a) := fun s R ok h =>
  ha s _ ok ((Aft.bind h).mono fun ds F1 H1 W1 ρ1 ok1 go1 h1 vs rs => by
    dsimp only at h1
    split at h1
    · split at h1
      · rename_i c
        cases rs with | cons r1 r2 =>
        cases r2; cases r1
        exact ⟨_, rfl, (inR_of c).1, (inR_of c).2, Aft.here (s := ⟨F1, H1, W1, s.σ, ρ1⟩) ok1 h1 _ (it_range _ _)⟩
      · exact h1.elim
    · exact h1.elim)
theorem si_rng2 {ta : TA} {a : AD} (ha : SD g E ta a) : SI g E (iRng2 ta) (aRng2 a) := fun s R ok h =>
  ha s _ ok ((Aft.bind h).mono fun ds F1 H1 W1 ρ1 ok1 go1 h1 vs rs => by
    dsimp only at h1
    split at h1
    · split at h1
      · rename_i c
        cases rs with | cons r1 r2 =>
        cases r2 with | cons r2 r3 =>
        cases r3; cases r1; cases r2
        exact ⟨_, _, rfl, ⟨(inR_of c.1).1, (inR_of c.1).2, (inR_of c.2).1, (inR_of c.2).2⟩, Aft.here (s := ⟨F1, H1, W1, s.σ, ρ1⟩) ok1 h1 _ (it_range _ _)⟩
      · exact h1.elim
    · exact h1.elim)
def enumD : Nat → List D → List D
  | _, [] => []
  | k, d :: ds => .tuple [.int k, d] :: enumD (k + 1) ds
theorem enumD_len : ∀ (k : Nat) (ds : List D), (enumD k ds).length = ds.length
  | _, [] => rfl
  | k, d :: ds => congrArg (· + 1) (enumD_len (k + 1) ds)
theorem enumD_get : ∀ (k : Nat) (ds : List D) (i : Nat), (enumD k ds)[i]? = (ds[i]?).map fun d => .tuple [.int ((k + i : Nat) : Int), d]
  | _, [], i => by simp [enumD]
  | k, d :: ds, 0 => rfl
  | k, d :: ds, i + 1 => by
    have := enumD_get (k + 1) ds i
    show (enumD (k + 1) ds)[i]? = (ds[i]?).map _
    rw [this, show k + 1 + i = k + (i + 1) by omega]
theorem it_enum {K : Fr} {F : Hp} {a : Addr} {vs : List V} {ds : List D} (h : SqL K F a vs) (r : RepL K F vs ds) : ItOk K F (Ite K a) (enumD 0 ds) := fun i F1 H1 e e1 => by
  have hs := (e.trans e1).sqL h
  rw [enumD_len]
  refine ⟨fun hi => ?_, fun hi => ⟨vs, hs, by rw [r.length]; omega⟩, fun x H2 hy d hd => .inr (.inl ?_)⟩
  · obtain ⟨v, d, h1, _⟩ := r.getV_lt hi
    exact ⟨vs, v, hs, h1⟩
  · obtain ⟨T, y, rfl, hT, rfl, hall⟩ := hy
    rw [enumD_get] at hd
    obtain ⟨d', hd', rfl⟩ := Option.map_eq_some_iff.mp hd
    obtain ⟨v, h1, h2⟩ := r.get hd'
    have := hall vs hs
    rw [h1] at this
    cases this
    have m : Ex F (upd F1 T (.tup [V.int (i : Nat), y])) := e.trans (Ex.new (e1.free hT))
    refine ⟨T, _, hT, rfl, .tup (sqT_of upd_same) (.cons ?_ (.cons (h2.mono m) .nil))⟩
    rw [Nat.zero_add]
    exact .int _
def aEnum (a : AD) : AI := fun ρ => (a ρ).bind fun ds ρ1 => match ds with
  | [.list l] => .ok (enumD 0 l) ρ1
  | _ => .bad
theorem si_enum {ta : TA} {a : AD} (ha : SD g E ta a) : SI g E (iEnum g.K ta) (aEnum a) := fun s R ok h =>
  ha s _ ok ((Aft.bind h).mono fun ds F1 H1 W1 ρ1 ok1 go1 h1 vs rs => by
    dsimp only at h1
    split at h1
    · cases rs with | cons r1 r2 =>
      cases r2
      cases r1 with | lst h r =>
      exact ⟨_, _, rfl, sqL_of (ok1.ex _ _ h), Aft.here (s := ⟨F1, H1, W1, s.σ, ρ1⟩) ok1 h1 _ (it_enum (sqL_of h) r)⟩
    · exact h1.elim)
def zipD : List D → List D → List D
  | a :: as, b :: bs => .tuple [a, b] :: zipD as bs
  | _, _ => []
theorem zipD_len : ∀ (as bs : List D), (zipD as bs).length = min as.length bs.length
  | [], bs => by simp [zipD]
  | a :: as, [] => by simp [zipD]
  | a :: as, b :: bs => by
    show (zipD as bs).length + 1 = min (as.length + 1) (bs.length + 1)
    rw [zipD_len as bs]; omega
theorem zipD_get : ∀ (as bs : List D) (i : Nat) (d : D), (zipD as bs)[i]? = some d → ∃ a b, as[i]? = some a ∧ bs[i]? = some b ∧ d = .tuple [a, b]
  | [], bs, i, d, h => by simp [zipD] at h
  | a :: as, [], i, d, h => by simp [zipD] at h
  | a :: as, b :: bs, 0, d, h => ⟨a, b, rfl, rfl, (Option.some.inj h).symm⟩
  | a :: as, b :: bs, i + 1, d, h => zipD_get as bs i d h
end
end DL

/-! zip of two sources, each a list or a tuple -/
namespace DL
open PySem PySem.Spec PyProof.Rows L2

def SqK (K : Fr) (t : Bool) (H : Hp) (a : Addr) (xs : List V) : Prop := if t = true then SqT K H a xs else SqL K H a xs
def ItK (t : Bool) (h : Heap) (it a : Addr) (i : Nat) : Prop := if t = true then h.IsTupleIter it a i else h.IsListIter it a i
def ArK (t : Bool) (h : Heap) (a : Addr) (vs : Array Value) : Prop := if t = true then h.IsTuple a vs else h.IsList a vs
theorem itK_obj {t : Bool} {h : Heap} {it a : Addr} {i : Nat} (x : ItK t h it a i) : ∃ o, h.get? it = some o ∧ ∀ v, o.data ≠ .cell v := by
  cases t with
  | true => obtain ⟨o, e, _, d⟩ := (show h.IsTupleIter it a i from x); exact ⟨o, e, fun v q => by rw [d] at q; cases q⟩
  | false => obtain ⟨o, e, _, d⟩ := (show h.IsListIter it a i from x); exact ⟨o, e, fun v q => by rw [d] at q; cases q⟩
theorem itK_at {t : Bool} {h h' : Heap} {it a : Addr} {i : Nat} (x : ItK t h it a i) (k : ∀ o, h.get? it = some o → h'.get? it = some o) : ItK t h' it a i := by
  cases t with
  | true => exact (show h.IsTupleIter it a i from x).at k
  | false => exact (show h.IsListIter it a i from x).at k
theorem drawK {prog : Program} {w : World} {A : Around} (hh : A.handled = none) (t : Bool) (it a : Addr) (hne : a ≠ it) (items : Array Value) :
    Draws prog w A it [it, a] items.size (fun i v => items[i]? = some v) (fun i h => ItK t h it a i ∧ ArK t h a items) := by
  cases t with
  | true => exact Draws.tuple hh it a hne items
  | false => exact Draws.list hh it a hne items
def iterO (t : Bool) (a : Addr) : Obj := if t = true then { cls := .type "tuple_iterator", data := .fields #[.ref a, .int 0 0] } else { cls := .type "list_iterator", data := .fields #[.ref a, .int 0 0] }
theorem beginK (t : Bool) (a : Addr) (items : Array Value) : Begins (.ref a) (iterO t a) fun h => ArK t h a items := by
  cases t with
  | true => exact begins_tuple a items
  | false => exact begins_list a items
theorem itK_new {t : Bool} {h : Heap} {it a : Addr} (e : h.get? it = some (iterO t a)) : ItK t h it a 0 := by
  cases t with
  | true => exact ⟨_, e, rfl, rfl⟩
  | false => exact ⟨_, e, rfl, rfl⟩
theorem Inv_seqK {X : Cx} {pins : List (Addr × Obj)} {σ : L2.St} {H : Hp} {s : Shared} {t : Bool} {a : Addr} {xs : List V} (I : Inv X pins σ H s) (h : SqK X.K t H a xs) : ∃ its : List Value, Vals xs its ∧ ArK t s.heap a its.toArray ∧ a < s.heap.objs.size := by
  cases t with
  | true =>
    obtain ⟨its, rv, p, _⟩ := I.tuple (show SqT X.K H a xs from h)
    obtain ⟨o, ho, _⟩ := id p
    exact ⟨its, rv, (show s.heap.IsTuple a its.toArray from p), Heap.lt_size ho⟩
  | false =>
    obtain ⟨its, rv, p, _⟩ := I.list (show SqL X.K H a xs from h)
    exact ⟨its, rv, p.isList, p.lt⟩
theorem Inv_seqK_inj {X : Cx} {pins : List (Addr × Obj)} {σ : L2.St} {H : Hp} {s : Shared} {t : Bool} {a : Addr} {xs ys : List V} (I : Inv X pins σ H s) (h : SqK X.K t H a xs) (h' : SqK X.K t H a ys) : xs = ys := by
  cases t with
  | true => exact I.tuple_inj (show SqT X.K H a xs from h) h'
  | false => exact I.list_inj (show SqL X.K H a xs from h) h'
/-- pairs of what stands at a and at b, in new tuples -/
def ItzK (K : Fr) (t u : Bool) (a b : Addr) : It :=
  ⟨fun i H => ∃ (xs ys : List V) (x y : V), SqK K t H a xs ∧ SqK K u H b ys ∧ xs[i]? = some x ∧ ys[i]? = some y,
    fun i H v H' => ∃ T x y, v = .ref T ∧ H T = none ∧ H' = upd H T (.tup [x, y]) ∧ (∀ xs, SqK K t H a xs → xs[i]? = some x) ∧ ∀ ys, SqK K u H b ys → ys[i]? = some y,
    fun i H => ∃ xs ys : List V, SqK K t H a xs ∧ SqK K u H b ys ∧ i = min xs.length ys.length⟩
def sepK {N a b : Nat} (ha : a < N) (hb : b < N) : ZipSep2 (N + 4) (N + 2) (N + 3) N (N + 1) [N, a] [N + 1, b] :=
  zip_sep2 (fun c hc => by rw [List.mem_singleton.mp hc]; exact ha) (fun c hc => by rw [List.mem_singleton.mp hc]; exact hb)
theorem mem5 {N c : Nat} (h : c ∈ [N + 4, N + 2, N + 3, N, N + 1]) : N ≤ c ∧ c < N + 5 := by
  simp only [List.mem_cons, List.not_mem_nil, or_false] at h
  omega
theorem old5 {N c : Nat} (h : c ∉ [N + 4, N + 2, N + 3, N, N + 1]) : c ≠ N + 4 ∧ c ≠ N + 2 ∧ c ≠ N + 3 ∧ c ≠ N ∧ c ≠ N + 1 := by
  simp only [List.mem_cons, List.not_mem_nil, or_false, not_or] at h
  exact h
theorem ge5 {N n : Nat} (h : N + 4 < n) : N + 5 ≤ n := h
theorem some_lt {α : Type} {l : List α} {i : Nat} {x : α} (h : l[i]? = some x) : i < l.length := (List.getElem?_eq_some_iff.mp h).1
theorem turnK {P : Program} {w : World} {K : Fr} {elts : List Expr} {kk : Nat} {tpos : Pos} {t u : Bool} {a b : Addr} {N : Nat} (ha : (a : Nat) < N) (hb : (b : Nat) < N) :
    Turn P w K (.Tuple elts kk tpos) (ItzK K t u a b) [N + 4, N + 2, N + 3, N, N + 1] (N + 4) (fun i h => IsZip h (N + 4) (N + 2) (N + 3) .none ∧ IsTupOf2 h (N + 2) (.ref N) (.ref (N + 1)) ∧ (∃ x y, IsTupOf2 h (N + 3) x y) ∧ ItK t h N a i ∧ ItK u h (N + 1) b i) where
  mem := List.mem_cons_self
  obj := fun i h st c hc => by
    obtain ⟨hz, hTI, ⟨x, y, hTO⟩, h1, h2⟩ := st
    simp only [List.mem_cons, List.not_mem_nil, or_false] at hc
    rcases hc with rfl | rfl | rfl | rfl | rfl
    · exact ⟨_, hz, fun v q => nomatch q⟩
    · exact ⟨_, hTI, fun v q => nomatch q⟩
    · exact ⟨_, hTO, fun v q => nomatch q⟩
    · exact itK_obj h1
    · exact itK_obj h2
  keep := fun i h h' st k => by
    obtain ⟨hz, hTI, ⟨x, y, hTO⟩, h1, h2⟩ := st
    exact ⟨k _ (by simp) _ hz, k _ (by simp) _ hTI, ⟨x, y, k _ (by simp) _ hTO⟩, itK_at h1 fun o q => k _ (by simp) o q, itK_at h2 fun o q => k _ (by simp) o q⟩
  item := by
    intro X hP hw hK hc i pins s σ H E I hf st hg
    subst hP hw hK
    obtain ⟨hz, hTI, ⟨x0, y0, hTO⟩, h1, h2⟩ := st
    obtain ⟨xs, ys, x, y, hqx, hqy, hx, hy⟩ := hg
    obtain ⟨its, rv, p, la⟩ := Inv_seqK I hqx
    obtain ⟨its2, rv2, p2, lb⟩ := Inv_seqK I hqy
    have hh : X.A.in1.handled = none := I.ok.hd hc
    have W := GoesN.zip2 (elts := elts) (x1 := kk) (pos := tpos) (sepK ha hb) (drawK (prog := X.prog) (w := X.w) hh t N a (Nat.ne_of_lt ha) its.toArray) (drawK (prog := X.prog) (w := X.w) hh u (N + 1) b (Nat.ne_of_lt (Nat.lt_succ_of_lt hb)) its2.toArray)
    have l1 : i < its.length := by rw [← rv.length]; exact some_lt hx
    have l2 : i < its2.length := by rw [← rv2.length]; exact some_lt hy
    refine wpAny_mono (W.goes i s (fun v s' => ∃ x H', Inv X pins σ H' s' ∧ RelV x v ∧ (ItzK X.K t u a b).yld i H x H' ∧ (IsZip s'.heap (N + 4) (N + 2) (N + 3) .none ∧ IsTupOf2 s'.heap (N + 2) (.ref N) (.ref (N + 1)) ∧ (∃ x y, IsTupOf2 s'.heap (N + 3) x y) ∧ ItK t s'.heap N a (i + 1) ∧ ItK u s'.heap (N + 1) b (i + 1)) ∧ ∀ b ∈ [N + 4, N + 2, N + 3, N, N + 1], H' b = none) E
      (by rw [List.size_toArray, List.size_toArray]; omega) ⟨hz, hTI, ⟨x0, y0, hTO⟩, ⟨h1, p⟩, ⟨h2, p2⟩⟩ fun v h' tk hY st' hk htk => ?_) (fun _ _ q => q) fun _ _ q => q
    obtain ⟨T, u1, u2, rfl, hT, e1, e2, hTT⟩ := hY
    obtain ⟨hz', hTI', ⟨x1, y1, hTO'⟩, ⟨h1', _⟩, ⟨h2', _⟩⟩ := st'
    obtain ⟨w1, hw1, rw1⟩ := rv.get hx
    obtain ⟨w2, hw2, rw2⟩ := rv2.get hy
    have ew1 : w1 = u1 := by
      have q : its[i]? = some u1 := by simpa using e1
      rw [hw1] at q; exact Option.some.inj q
    have ew2 : w2 = u2 := by
      have q : its2[i]? = some u2 := by simpa using e2
      rw [hw2] at q; exact Option.some.inj q
    subst ew1 ew2
    have hn : H T = none := I.hok.fresh hT
    have new : ObjOk X.prog X.w (upd H T (.tup [x, y])) h' T (.tup [x, y]) := ⟨by show 2 ≤ sizeLine; decide, [w1, w2], .cons rw1 (.cons rw2 .nil), hTT⟩
    have I1 : Inv X pins σ (upd H T (.tup [x, y])) { s with heap := h', toks := tk } :=
      I.turnedNew (t' := tk) (ch := [N + 4, N + 2, N + 3, N, N + 1]) (fun c o hb' q => by
        obtain ⟨c1, c2, c3, c4, c5⟩ := old5 (N := N) hb'
        exact hk c o (by simp only [List.mem_cons, List.not_mem_nil, or_false, not_or]; exact ⟨c1, c3, c4, c5⟩) q) hf hT new
    refine ⟨.ref T, _, I1, rfl, ⟨T, x, y, rfl, hn, rfl, fun l hl => by rw [Inv_seqK_inj I hl hqx]; exact hx, fun l hl => by rw [Inv_seqK_inj I hl hqy]; exact hy⟩, ⟨hz', hTI', ⟨x1, y1, hTO'⟩, h1', h2'⟩, fun c hcm => ?_⟩
    have hlt : N + 4 < s.heap.objs.size := Heap.lt_size hz
    have hc5 := mem5 hcm
    have hT' : s.heap.objs.size ≤ T := hT
    have ne : c ≠ T := fun e => by
      subst e
      exact absurd (Nat.lt_of_lt_of_le hc5.2 (Nat.le_trans (ge5 hlt) hT')) (Nat.lt_irrefl _)
    rw [upd_ne ne]
    exact (hf c hcm).1
  done := by
    intro X hP hw hK hc i pins s σ H E I hf st hg
    subst hP hw hK
    obtain ⟨hz, hTI, ⟨x0, y0, hTO⟩, h1, h2⟩ := st
    obtain ⟨xs, ys, hqx, hqy, hend⟩ := hg
    obtain ⟨its, rv, p, la⟩ := Inv_seqK I hqx
    obtain ⟨its2, rv2, p2, lb⟩ := Inv_seqK I hqy
    have hh : X.A.in1.handled = none := I.ok.hd hc
    have W := GoesN.zip2 (elts := elts) (x1 := kk) (pos := tpos) (sepK ha hb) (drawK (prog := X.prog) (w := X.w) hh t N a (Nat.ne_of_lt ha) its.toArray) (drawK (prog := X.prog) (w := X.w) hh u (N + 1) b (Nat.ne_of_lt (Nat.lt_succ_of_lt hb)) its2.toArray)
    have ei : i = min its.toArray.size its2.toArray.size := by rw [List.size_toArray, List.size_toArray, ← rv.length, ← rv2.length]; exact hend
    subst ei
    exact W.stops s (fun s' => Inv X pins σ H s') E ⟨hz, hTI, ⟨x0, y0, hTO⟩, ⟨h1, p⟩, ⟨h2, p2⟩⟩ fun h' tk hk htk =>
      I.turnedL (t' := tk) (ch := [N + 4, N + 2, N + 3, N, N + 1]) (fun c o hb' q => by
        obtain ⟨c1, c2, c3, c4, c5⟩ := old5 (N := N) hb'
        exact hk c o (by simp only [List.mem_cons, List.not_mem_nil, or_false, not_or]; exact ⟨c1, c3, c4, c5⟩) q) hf
  self := fun A i s Q E st h => wpAny_pyIter_zip st.1 h
def iZipK (K : Fr) (ta : TA) : TI := fun σ H R => ta σ H fun vs H1 => ∃ t u a b xs ys, vs = [.ref a, .ref b] ∧ SqK K t H1 a xs ∧ SqK K u H1 b ys ∧ R (ItzK K t u a b) H1
theorem pi_zipK {X : Cx} {e e2 : Expr} {ta : TA} {p pos tpos : Pos} {elts : List Expr} {kk : Nat} (hg : Gl X "zip") (hm : X.mg "zip" = none) (ha : PA X [e, e2] ta)
    (hs : starEach [e, e2] X.env = (false, eval e X.env) :: starEach [e2] X.env := by rfl) (hpl : (backTo pos (starEach [e2] X.env)).any (·.1) = false := by rfl) :
    PI X (.Tuple elts kk tpos) (.Call (.Name "zip" p) [e, e2] [] pos) (iZipK X.K ta) := by
  refine ⟨fun pins s σ H R I h => Call_ (ld_blt I hg hm boot_zip (callWith_type1 (thn (ha.run pos pins s σ H _ I h) fun us s1 q1 => ?_) hs hpl))⟩
  obtain ⟨vs, H1, I1, r1, t, u, a, b, xs, ys, rfl, hqx, hqy, q⟩ := q1
  cases r1 with | cons ra r1 =>
  cases r1 with | cons rb r1 =>
  cases r1
  cases ra
  cases rb
  obtain ⟨its, rv, p1, la⟩ := Inv_seqK I1 hqx
  obtain ⟨its2, rv2, p2, lb⟩ := Inv_seqK I1 hqy
  refine zip_begins2 (beginK t a its.toArray) (beginK u b its2.toArray) p1 p2 fun h' hz hTI hTO e1 e2 hsz hk => wpAny_pyIter_zip hz ?_
  have I2 : Inv X pins σ H1 { s1 with heap := h' } := I1.kept (t' := s1.toks) hk
  refine ⟨s1.heap.objs.size + 4, [s1.heap.objs.size + 4, s1.heap.objs.size + 2, s1.heap.objs.size + 3, s1.heap.objs.size, s1.heap.objs.size + 1], _, _, H1, rfl, I2, turnK la lb, ⟨hz, hTI, ⟨_, _, hTO⟩, itK_new e1, itK_new e2⟩, fun c hcm => ?_, q⟩
  exact I1.fpOk (mem5 hcm).1 (I1.hok.fresh (mem5 hcm).1)

section
variable {g : G} {E : EX}
theorem it_zip {K : Fr} {F : Hp} {t u : Bool} {a b : Addr} {vs ws : List V} {ds es : List D} (h1 : SqK K t F a vs) (h2 : SqK K u F b ws) (r1 : RepL K F vs ds) (r2 : RepL K F ws es) : ItOk K F (ItzK K t u a b) (zipD ds es) := fun i F1 H1 e e1 => by
  have m : ∀ {t : Bool} {a : Addr} {xs : List V}, SqK K t F a xs → SqK K t H1 a xs := fun {t a xs} h => by
    cases t with
    | true => exact (e.trans e1).sqT (show SqT K F a xs from h)
    | false => exact (e.trans e1).sqL (show SqL K F a xs from h)
  rw [zipD_len]
  refine ⟨fun hi => ?_, fun hi => ⟨vs, ws, m h1, m h2, by rw [r1.length, r2.length]; omega⟩, fun x H2 hy d hd => .inr (.inl ?_)⟩
  · obtain ⟨v, d, q1, _⟩ := r1.getV_lt (i := i) (by omega)
    obtain ⟨v', d', q2, _⟩ := r2.getV_lt (i := i) (by omega)
    exact ⟨vs, ws, v, v', m h1, m h2, q1, q2⟩
  · obtain ⟨T, x, y, rfl, hT, rfl, hx, hy⟩ := hy
    obtain ⟨d1, d2, e3, e4, rfl⟩ := zipD_get ds es i d hd
    obtain ⟨v1, q1, p1⟩ := r1.get e3
    obtain ⟨v2, q2, p2⟩ := r2.get e4
    have z1 := hx vs (m h1)
    rw [q1] at z1; cases z1
    have z2 := hy ws (m h2)
    rw [q2] at z2; cases z2
    have mm : Ex F (upd F1 T (.tup [x, y])) := e.trans (Ex.new (e1.free hT))
    exact ⟨T, _, hT, rfl, .tup (sqT_of upd_same) (.cons (p1.mono mm) (.cons (p2.mono mm) .nil))⟩
def seqD : D → Option (List D)
  | .list a => some a
  | .tuple a => some a
  | _ => none
theorem seq_rep {F H : Hp} {v : V} {d : D} {ds : List D} (e : Ex F H) (r : Rep g.K F v d) (h : seqD d = some ds) : ∃ t a vs, v = .ref a ∧ SqK g.K t F a vs ∧ SqK g.K t H a vs ∧ RepL g.K F vs ds := by
  cases r with
  | lst h' r => cases h; exact ⟨false, _, _, rfl, sqL_of h', sqL_of (e _ _ h'), r⟩
  | tup h' r => cases h; exact ⟨true, _, _, rfl, h', e.sqT h', r⟩
  | _ => cases h
def aZip (a : AD) : AI := fun ρ => (a ρ).bind fun ds ρ1 => match ds with
  | [d1, d2] => match seqD d1, seqD d2 with
    | some l1, some l2 => .ok (zipD l1 l2) ρ1
    | _, _ => .bad
  | _ => .bad
theorem si_zip {ta : TA} {a : AD} (ha : SD g E ta a) : SI g E (iZipK g.K ta) (aZip a) := fun s R ok h =>
  ha s _ ok ((Aft.bind h).mono fun ds F1 H1 W1 ρ1 ok1 go1 h1 vs rs => by
    dsimp only at h1
    split at h1
    · split at h1
      · rename_i q1 q2
        cases rs with | cons r1 r2 =>
        cases r2 with | cons r2 r3 =>
        cases r3
        obtain ⟨t, a, vs, rfl, h2, h3, r1⟩ := seq_rep ok1.ex r1 q1
        obtain ⟨u, b, ws, rfl, h4, h5, r2⟩ := seq_rep ok1.ex r2 q2
        exact ⟨t, u, a, b, vs, ws, rfl, h3, h5, Aft.here (s := ⟨F1, H1, W1, s.σ, ρ1⟩) ok1 h1 _ (it_zip h2 h4 r1 r2)⟩
      · exact h1.elim
    · exact h1.elim)
end
end DL

namespace DL
open PySem PySem.Spec PyProof.Rows L2

/-! ### targets -/
abbrev AG := D → List Sl → Option (List Sl)
def noPin : Sl → Bool
  | .pin _ => false
  | .none => true
  | .dat _ => true
  | .own _ => true
def plainS : Sl → Bool
  | .none => true
  | .dat _ => true
  | .own _ => false
  | .pin _ => false
def putS (ρ : List Sl) (i : Nat) (x : Sl) : Option (List Sl) := if i < ρ.length then (if noPin (sl ρ i) = true then some (ρ.set i x) else none) else none
theorem sl_of {ρ : List Sl} {i : Nat} {x : Sl} (h : ρ[i]? = some x) : sl ρ i = x := by
  induction ρ generalizing i with
  | nil => simp at h
  | cons s r ih =>
    cases i with
    | zero =>
      have h : some s = some x := h
      exact Option.some.inj h
    | succ i => exact ih (by simpa using h)
section
variable {g : G} {E : EX}
/-- a slot takes a value -/
theorem S.Ok.put {s : S} {i : Nat} {v : V} {d : D} (ok : s.Ok g) (r : Rep g.K s.F v d) (hi : i < s.ρ.length) (hp : noPin (DL.sl s.ρ i) = true) :
    (S.mk s.F s.H s.W (s.σ.set i (some v)) (s.ρ.set i (.dat d))).Ok g ∧ Go s ⟨s.F, s.H, s.W, s.σ.set i (some v), s.ρ.set i (.dat d)⟩ := by
  have hi' : i < s.σ.length := by rw [ok.len]; exact hi
  refine ⟨⟨ok.ex, ok.fw, by simp [ok.len], ?_⟩, ⟨.refl _, fun _ _ h _ => h, fun _ _ h _ => h, fun _ h => .inl h, fun j m h => ?_⟩⟩
  · obtain ⟨O, h1, h2, h3⟩ := ok.sl
    refine ⟨O, h1, h2, fun j x hx => ?_⟩
    have hx : (s.ρ.set i (.dat d))[j]? = some x := hx
    show SlOk g s.F s.H (O j) ((s.σ.set i (some v))[j]?.join) x
    by_cases e : i = j
    · subst e
      rw [List.getElem?_set_self hi] at hx
      cases hx
      rw [List.getElem?_set_self hi']
      exact ⟨v, rfl, r⟩
    · rw [List.getElem?_set_ne e] at hx ⊢
      exact h3 j x hx
  · have e : i ≠ j := fun e => by
      subst e
      rw [sl_of h] at hp
      cases hp
    show (s.σ.set i (some v))[j]? = s.σ[j]? ∧ ∃ m', (s.ρ.set i (.dat d))[j]? = some (.pin m')
    rw [List.getElem?_set_ne e, List.getElem?_set_ne e]
    exact ⟨rfl, m, h⟩
theorem putS_some {ρ ρ' : List Sl} {i : Nat} {x : Sl} (h : putS ρ i x = some ρ') : i < ρ.length ∧ noPin (sl ρ i) = true ∧ ρ' = ρ.set i x := by
  unfold putS at h
  split at h
  · split at h
    · rename_i h1 h2
      exact ⟨h1, h2, (Option.some.inj h).symm⟩
    · cases h
  · cases h
/-- slots outside ts stay -/
def Off (ts : List Nat) (σ σ' : L2.St) : Prop := σ'.length = σ.length ∧ ∀ j, j ∉ ts → σ'[j]? = σ[j]?
def SG (g : G) (t : TG) (a : AG) (ts : List Nat) : Prop := ∀ (s : S) (v : V) (d : D) (ρ' : List Sl) (Q : L2.St → Hp → Prop), s.Ok g → Rep g.K s.F v d → a d s.ρ = some ρ' →
  (∀ σ', (S.mk s.F s.H s.W σ' ρ').Ok g → Go s ⟨s.F, s.H, s.W, σ', ρ'⟩ → Off ts s.σ σ' → Q σ' s.H) → t v s.σ s.H Q
def agName (i : Nat) : AG := fun d ρ => putS ρ i (.dat d)
theorem sg_name (i : Nat) : SG g (gName i) (agName i) [i] := fun s v d ρ' Q ok r h k => by
  obtain ⟨h1, h2, rfl⟩ := putS_some h
  obtain ⟨ok', go⟩ := ok.put r h1 h2
  refine k _ ok' go ⟨by simp, fun j hj => ?_⟩
  rw [List.getElem?_set_ne]
  exact fun e => hj (by simp [e])
abbrev AGs := List D → List Sl → Option (List Sl)
def SGs (g : G) (t : TGs) (a : AGs) (ts : List Nat) : Prop := ∀ (s : S) (vs : List V) (ds : List D) (ρ' : List Sl) (Q : L2.St → Hp → Prop), s.Ok g → RepL g.K s.F vs ds → a ds s.ρ = some ρ' →
  (∀ σ', (S.mk s.F s.H s.W σ' ρ').Ok g → Go s ⟨s.F, s.H, s.W, σ', ρ'⟩ → Off ts s.σ σ' → Q σ' s.H) → t vs s.σ s.H Q
def agNil : AGs := fun ds ρ => match ds with | [] => some ρ | _ => none
def agCons (a : AG) (b : AGs) : AGs := fun ds ρ => match ds with | d :: r => (a d ρ).bind fun ρ1 => b r ρ1 | [] => none
theorem sgs_nil : SGs g gNil agNil [] := fun s vs ds ρ' Q ok r h k => by
  cases r with
  | nil =>
    have h : some s.ρ = some ρ' := h
    cases h
    exact ⟨rfl, k s.σ ok (Go.refl s) ⟨rfl, fun _ _ => rfl⟩⟩
  | cons _ _ => cases h
theorem sgs_cons {t : TG} {u : TGs} {a : AG} {b : AGs} {ts us : List Nat} (h1 : SG g t a ts) (h2 : SGs g u b us) : SGs g (gCons t u) (agCons a b) (ts ++ us) := fun s vs ds ρ' Q ok r h k => by
  cases r with
  | nil => cases h
  | cons rv rs =>
    rename_i v d vs ds
    obtain ⟨ρ1, e1, e2⟩ := Option.bind_eq_some_iff.mp (show (a d s.ρ).bind (fun ρ1 => b ds ρ1) = some ρ' from h)
    refine ⟨v, vs, rfl, h1 s v d ρ1 _ ok rv e1 fun σ1 ok1 go1 of1 => h2 ⟨s.F, s.H, s.W, σ1, ρ1⟩ vs ds ρ' Q ok1 rs e2 fun σ2 ok2 go2 of2 => k σ2 ok2 (go1.trans go2) ⟨of2.1.trans of1.1, fun j hj => ?_⟩⟩
    rw [List.mem_append, not_or] at hj
    exact (of2.2 j hj.2).trans (of1.2 j hj.1)
def agTup (n : Nat) (a : AGs) : AG := fun d ρ => match d with | .tuple ds => if ds.length = n then a ds ρ else none | _ => none
theorem sg_tup {n : Nat} {t : TGs} {a : AGs} {ts : List Nat} (h1 : SGs g t a ts) : SG g (gTup g.K n t) (agTup n a) ts := fun s v d ρ' Q ok r h k => by
  unfold agTup at h
  split at h
  · split at h
    · rename_i ds c
      cases r with | tup hs r =>
      exact ⟨_, _, rfl, ok.ex.sqT hs, by rw [r.length]; exact c, h1 s _ _ ρ' Q ok r h k⟩
    · cases h
  · cases h
/-- the same over a list -/
def agLst (n : Nat) (a : AGs) : AG := fun d ρ => match d with | .list ds => if ds.length = n then a ds ρ else none | _ => none
theorem sg_lst {n : Nat} {t : TGs} {a : AGs} {ts : List Nat} (h1 : SGs g t a ts) : SG g (gLst g.K n t) (agLst n a) ts := fun s v d ρ' Q ok r h k => by
  unfold agLst at h
  split at h
  · split at h
    · rename_i ds c
      cases r with | lst hs r =>
      exact ⟨_, _, rfl, sqL_of (ok.ex _ _ hs), by rw [r.length]; exact c, h1 s _ _ ρ' Q ok r h k⟩
    · cases h
  · cases h

/-! ### list comprehensions -/
def Res.nox {α : Type} : Res α → Res α
  | .exc _ _ => .bad
  | r => r
theorem Aft.nox {α : Type} {E' : EX} {s : S} {k : α → S → Prop} : ∀ {r : Res α}, Aft g E' s r.nox k → Aft g E s r k
  | .ok d ρ', h => h
  | .exc _ _, h => h.elim
  | .bad, h => h.elim
def wipeS (ρ : List Sl) : List Nat → List Sl
  | [] => ρ
  | v :: vs => (wipeS ρ vs).set v .none
def backS (ρ0 ρ : List Sl) : List Nat → List Sl
  | [] => ρ
  | v :: vs => (backS ρ0 ρ vs).set v (sl ρ0 v)
theorem wipe_len (σ : L2.St) : ∀ vs, (wipe σ vs).length = σ.length
  | [] => rfl
  | v :: vs => by show ((wipe σ vs).set v none).length = _; rw [List.length_set, wipe_len σ vs]
theorem wipe_off (σ : L2.St) : ∀ (vs : List Nat) (j : Nat), j ∉ vs → (wipe σ vs)[j]? = σ[j]?
  | [], _, _ => rfl
  | v :: vs, j, h => by
    rw [List.mem_cons, not_or] at h
    show ((wipe σ vs).set v none)[j]? = _
    rw [List.getElem?_set_ne (Ne.symm h.1), wipe_off σ vs j h.2]
theorem wipe_at (σ : L2.St) : ∀ (vs : List Nat) (j : Nat), j ∈ vs → j < σ.length → (wipe σ vs)[j]? = some none
  | v :: vs, j, h, hl => by
    show ((wipe σ vs).set v none)[j]? = _
    by_cases e : v = j
    · subst e; rw [List.getElem?_set_self (by rw [wipe_len]; exact hl)]
    · rw [List.getElem?_set_ne e]
      rcases List.mem_cons.mp h with h | h
      · exact absurd h.symm e
      · exact wipe_at σ vs j h hl
theorem wipe_of_off {σ σ' : L2.St} {ts vs : List Nat} (h : Off ts (wipe σ vs) σ') (hs : ∀ j ∈ ts, j ∈ vs) : wipe σ' vs = wipe σ vs := by
  refine List.ext_getElem? fun j => ?_
  by_cases hj : j ∈ vs
  · by_cases hl : j < σ.length
    · rw [wipe_at σ vs j hj hl, wipe_at σ' vs j hj (by rw [h.1, wipe_len]; exact hl)]
    · have l1 : (wipe σ' vs).length ≤ j := by rw [wipe_len, h.1, wipe_len]; omega
      have l2 : (wipe σ vs).length ≤ j := by rw [wipe_len]; omega
      rw [List.getElem?_eq_none l1, List.getElem?_eq_none l2]
  · rw [wipe_off σ' vs j hj, h.2 j fun q => hj (hs j q)]
theorem wipeS_len (ρ : List Sl) : ∀ vs, (wipeS ρ vs).length = ρ.length
  | [] => rfl
  | v :: vs => by show ((wipeS ρ vs).set v .none).length = _; rw [List.length_set, wipeS_len ρ vs]
theorem wipeS_off (ρ : List Sl) : ∀ (vs : List Nat) (j : Nat), j ∉ vs → (wipeS ρ vs)[j]? = ρ[j]?
  | [], _, _ => rfl
  | v :: vs, j, h => by
    rw [List.mem_cons, not_or] at h
    show ((wipeS ρ vs).set v .none)[j]? = _
    rw [List.getElem?_set_ne (Ne.symm h.1), wipeS_off ρ vs j h.2]
theorem wipeS_at (ρ : List Sl) : ∀ (vs : List Nat) (j : Nat) (x : Sl), j ∈ vs → (wipeS ρ vs)[j]? = some x → x = .none
  | v :: vs, j, x, h, hx => by
    have hx : ((wipeS ρ vs).set v .none)[j]? = some x := hx
    by_cases e : v = j
    · subst e
      have hl := (List.getElem?_eq_some_iff.mp hx).1
      rw [List.length_set] at hl
      rw [List.getElem?_set_self hl] at hx
      exact (Option.some.inj hx).symm
    · rw [List.getElem?_set_ne e] at hx
      rcases List.mem_cons.mp h with h | h
      · exact absurd h.symm e
      · exact wipeS_at ρ vs j x h hx
theorem backS_off (ρ0 ρ : List Sl) : ∀ (vs : List Nat) (j : Nat), j ∉ vs → (backS ρ0 ρ vs)[j]? = ρ[j]?
  | [], _, _ => rfl
  | v :: vs, j, h => by
    rw [List.mem_cons, not_or] at h
    show ((backS ρ0 ρ vs).set v (sl ρ0 v))[j]? = _
    rw [List.getElem?_set_ne (Ne.symm h.1), backS_off ρ0 ρ vs j h.2]
theorem backS_len (ρ0 ρ : List Sl) : ∀ vs, (backS ρ0 ρ vs).length = ρ.length
  | [] => rfl
  | v :: vs => by show ((backS ρ0 ρ vs).set v (sl ρ0 v)).length = _; rw [List.length_set, backS_len ρ0 ρ vs]
theorem backS_at (ρ0 ρ : List Sl) : ∀ (vs : List Nat) (j : Nat) (x : Sl), j ∈ vs → (backS ρ0 ρ vs)[j]? = some x → x = sl ρ0 j
  | v :: vs, j, x, h, hx => by
    have hx : ((backS ρ0 ρ vs).set v (sl ρ0 v))[j]? = some x := hx
    by_cases e : v = j
    · subst e
      have hl := (List.getElem?_eq_some_iff.mp hx).1
      rw [List.length_set] at hl
      rw [List.getElem?_set_self hl] at hx
      exact (Option.some.inj hx).symm
    · rw [List.getElem?_set_ne e] at hx
      rcases List.mem_cons.mp h with h | h
      · exact absurd h.symm e
      · exact backS_at ρ0 ρ vs j x h hx
/-- a list's items, those that pass, each made -/
def lcGo (vs : List Nat) (gt : AG) (tt : AT) (te : AE) : List D → List Sl → List D → Res (List D)
  | [], ρ, acc => .ok acc ρ
  | d :: ds, ρ, acc => match gt d ρ with
    | none => .bad
    | some ρ1 => (tt ρ1).nox.bind fun b ρ2 => if b = true then (te ρ2).nox.bind fun y ρ3 => if acc.length ≤ 10000 then lcGo vs gt tt te ds (wipeS ρ3 vs) (acc ++ [y]) else .bad
      else lcGo vs gt tt te ds (wipeS ρ2 vs) acc
def aLc (vs : List Nat) (ai : AI) (gt : AG) (tt : AT) (te : AE) : AE := fun ρ => (ai ρ).bind fun ds ρ1 =>
  if vs.all (fun v => plainS (sl ρ1 v)) = true then (lcGo vs gt tt te ds (wipeS ρ1 vs) []).bind fun acc ρ2 => .ok (.list acc) (backS ρ1 ρ2 vs) else .bad
theorem slOk_plain {F H F' H' : Hp} {P P' : Addr → Prop} {o : Option V} (e : Ex F F') : ∀ {x : Sl}, plainS x = true → SlOk g F H P o x → SlOk g F' H' P' o x
  | .none, _, _ => True.intro
  | .dat d, _, ⟨v, h1, h2⟩ => ⟨v, h1, h2.mono e⟩
  | .own d, h, _ => by cases h
  | .pin m, h, _ => by cases h
theorem plain_noPin : ∀ {x : Sl}, plainS x = true → noPin x = true
  | .none, _ => rfl
  | .dat d, _ => rfl
  | .own d, h => by cases h
  | .pin m, h => by cases h
/-- within the comprehension's frame -/
theorem S.Ok.wiped {s : S} (vs : List Nat) (ok : s.Ok g) : (S.mk s.F s.H s.W (wipe s.σ vs) (wipeS s.ρ vs)).Ok g := by
  refine ⟨ok.ex, ok.fw, by show (wipe s.σ vs).length = (wipeS s.ρ vs).length; rw [wipe_len, wipeS_len]; exact ok.len, ?_⟩
  obtain ⟨O, h1, h2, h3⟩ := ok.sl
  refine ⟨O, h1, h2, fun j x hx => ?_⟩
  have hx : (wipeS s.ρ vs)[j]? = some x := hx
  show SlOk g s.F s.H (O j) ((wipe s.σ vs)[j]?.join) x
  by_cases hj : j ∈ vs
  · rw [wipeS_at s.ρ vs j x hj hx]
    trivial
  · rw [wipeS_off s.ρ vs j hj] at hx
    rw [wipe_off s.σ vs j hj]
    exact h3 j x hx
theorem S.Ok.back {s t : S} {vs : List Nat} (ok : s.Ok g) (okt : t.Ok g) (es : t.σ = wipe s.σ vs) (el : t.ρ.length = s.ρ.length) (f : Ex s.F t.F) (hp : ∀ v ∈ vs, plainS (DL.sl s.ρ v) = true) : (S.mk t.F t.H t.W s.σ (backS s.ρ t.ρ vs)).Ok g := by
  refine ⟨okt.ex, okt.fw, by show s.σ.length = (backS s.ρ t.ρ vs).length; rw [backS_len, el]; exact ok.len, ?_⟩
  obtain ⟨O, h1, h2, h3⟩ := okt.sl
  obtain ⟨O', _, _, h3'⟩ := ok.sl
  refine ⟨O, h1, h2, fun j x hx => ?_⟩
  have hx : (backS s.ρ t.ρ vs)[j]? = some x := hx
  show SlOk g t.F t.H (O j) (s.σ[j]?.join) x
  by_cases hj : j ∈ vs
  · have e := backS_at s.ρ t.ρ vs j x hj hx
    have hl : j < s.ρ.length := by
      have := (List.getElem?_eq_some_iff.mp hx).1
      rw [backS_len, el] at this
      exact this
    have e2 : s.ρ[j]? = some x := by
      rw [List.getElem?_eq_getElem hl, e]
      exact congrArg some (sl_of (List.getElem?_eq_getElem hl)).symm
    exact slOk_plain f (by rw [e]; exact hp j hj) (h3' j x e2)
  · rw [backS_off s.ρ t.ρ vs j hj] at hx
    have := h3 j x hx
    rw [es, wipe_off s.σ vs j hj] at this
    exact this
def E0 : EX := fun _ _ _ _ => False
theorem pin_off {s : S} {vs : List Nat} (hp : ∀ v ∈ vs, noPin (sl s.ρ v) = true) {i : Nat} {m : Mu} (h : s.ρ[i]? = some (Sl.pin m)) : i ∉ vs := fun hv => by
  have := hp i hv
  rw [sl_of h] at this
  cases this
theorem Go.wiped {s : S} {vs : List Nat} (hp : ∀ v ∈ vs, noPin (sl s.ρ v) = true) : Go s ⟨s.F, s.H, s.W, wipe s.σ vs, wipeS s.ρ vs⟩ :=
  ⟨.refl _, fun _ _ h _ => h, fun _ _ h _ => h, fun _ h => .inl h, fun i m h => by
    have := pin_off hp h
    show (wipe s.σ vs)[i]? = s.σ[i]? ∧ ∃ m', (wipeS s.ρ vs)[i]? = some (.pin m')
    rw [wipe_off s.σ vs i this, wipeS_off s.ρ vs i this]
    exact ⟨rfl, m, h⟩⟩
end
end DL

namespace DL
open PySem PySem.Spec PyProof.Rows L2
section
variable {g : G} {E : EX}
theorem bind_ok {α β : Type} {r : Res α} {f : α → List Sl → Res β} {b : β} {ρ : List Sl} (h : r.bind f = .ok b ρ) : ∃ a ρ1, r = .ok a ρ1 ∧ f a ρ1 = .ok b ρ := by
  cases r with
  | ok a ρ1 => exact ⟨a, ρ1, rfl, h⟩
  | exc e ρ1 => cases h
  | bad => cases h
theorem nox_ok {α : Type} {r : Res α} {b : α} {ρ : List Sl} (h : r.nox = .ok b ρ) : r = .ok b ρ := by
  cases r with
  | ok a ρ1 => exact h
  | exc e ρ1 => cases h
  | bad => cases h

theorem drop_step {α : Type} {l : List α} {i : Nat} (h : i < l.length) : ∃ x, l[i]? = some x ∧ l.drop i = x :: l.drop (i + 1) :=
  ⟨l[i], List.getElem?_eq_getElem h, List.drop_eq_getElem_cons h⟩
theorem keepD {s t : S} {p : Addr} {o : HO} (go : Go s t) (fD : s.F p = none) (hD : s.H p = some o) (nW : ¬ s.W p) : t.F p = none ∧ t.H p = some o ∧ ¬ t.W p :=
  ⟨go.fr p (by rw [hD]; exact fun q => nomatch q) fD nW, go.keep p o hD nW, fun h => by
    rcases go.own p h with h | h
    · exact nW h
    · rw [hD] at h; cases h⟩
/-- an object that no name owns may change -/
theorem S.Ok.more {s : S} {p : Addr} {o : HO} (ok : s.Ok g) (fD : s.F p = none) (nW : ¬ s.W p) : (S.mk s.F (upd s.H p o) s.W s.σ s.ρ).Ok g := by
  refine ⟨fun x u h => ?_, fun x h => ?_, ok.len, ?_⟩
  · have h : s.F x = some u := h
    have : x ≠ p := fun e => by rw [e, fD] at h; cases h
    show upd s.H p o x = some u
    rw [upd_ne this]; exact ok.ex x u h
  · have h : s.W x := h
    have : x ≠ p := fun e => nW (e ▸ h)
    show s.F x = none ∧ upd s.H p o x ≠ none
    rw [upd_ne this]; exact ok.fw x h
  · obtain ⟨O, h1, h2, h3⟩ := ok.sl
    refine ⟨O, h1, h2, fun j x hx => (h3 j x hx).keep (Ex.refl _) (fun c hc _ => ?_) fun _ q => q⟩
    exact upd_ne fun e => nW (e ▸ h1 j c hc)
/-- from t1, p free there, to a heap that has p besides -/
structure Side (t1 : S) (p : Addr) (t : S) : Prop where
  f : Ex t1.F t.F
  keep : ∀ a o, t1.H a = some o → ¬ t1.W a → t.H a = some o
  fr : ∀ a, t1.H a ≠ none → t1.F a = none → ¬ t1.W a → t.F a = none
  own : ∀ a, t.W a → t1.W a ∨ t1.H a = none
  fp : t.F p = none
  nW : ¬ t.W p
theorem Side.go {t1 t u : S} {p : Addr} {o : HO} (a : Side t1 p t) (hp : t.H p = some o) (b : Go t u) : Side t1 p u := by
  obtain ⟨k1, k2, k3⟩ := keepD b a.fp hp a.nW
  exact { f := a.f.trans b.f
          keep := fun x v h hw => b.keep x v (a.keep x v h hw) fun q => by
            rcases a.own x q with z | z
            · exact hw z
            · rw [z] at h; cases h
          fr := fun x h hf hw => by
            cases e : t1.H x with
            | none => exact absurd e h
            | some v =>
              refine b.fr x (by rw [a.keep x v e hw]; exact fun q => nomatch q) (a.fr x h hf hw) fun q => ?_
              rcases a.own x q with z | z
              · exact hw z
              · exact h z
          own := fun x h => by
            rcases b.own x h with z | z
            · exact a.own x z
            · by_cases hw : t1.W x
              · exact .inl hw
              · cases e : t1.H x with
                | none => exact .inr rfl
                | some v => rw [a.keep x v e hw] at z; cases z
          fp := k1
          nW := k3 }
theorem Side.upd {t1 t : S} {p : Addr} {o : HO} (hp : t1.H p = none) (a : Side t1 p t) : Side t1 p ⟨t.F, upd t.H p o, t.W, t.σ, t.ρ⟩ :=
  ⟨a.f, fun x v h hw => by
    show L2.upd t.H p o x = some v
    rw [upd_ne (ne_of_none h hp)]; exact a.keep x v h hw, a.fr, a.own, a.fp, a.nW⟩
structure LcAt (g : G) (t1 : S) (p : Addr) (t : S) (accV : List V) (accD : List PyData) : Prop where
  ok : t.Ok g
  side : Side t1 p t
  hp : t.H p = some (.lst accV)
  rp : RepL g.K t.F accV accD
  ln : t.ρ.length = t1.ρ.length
  pk : ∀ (i : Nat) (m : Mu), t1.ρ[i]? = some (Sl.pin m) → ∃ m', t.ρ[i]? = some (Sl.pin m')
theorem lcGo_noexc {vs : List Nat} {gt : AG} {tt : AT} {te : AE} : ∀ {ds : List PyData} {ρ acc e ρ'}, lcGo vs gt tt te ds ρ acc = .exc e ρ' → False
  | [], ρ, acc, e, ρ', h => by cases h
  | d :: ds, ρ, acc, e, ρ', h => by
    unfold lcGo at h
    split at h
    · cases h
    · rename_i ρ1 _
      cases ht : tt ρ1 with
      | exc _ _ => rw [ht] at h; cases h
      | bad => rw [ht] at h; cases h
      | ok b ρ2 =>
        rw [ht] at h
        have h : (if b = true then (te ρ2).nox.bind fun y ρ3 => if acc.length ≤ 10000 then lcGo vs gt tt te ds (wipeS ρ3 vs) (acc ++ [y]) else .bad else lcGo vs gt tt te ds (wipeS ρ2 vs) acc) = .exc e ρ' := h
        split at h
        · cases he : te ρ2 with
          | exc _ _ => rw [he] at h; cases h
          | bad => rw [he] at h; cases h
          | ok y ρ3 =>
            rw [he] at h
            have h : (if acc.length ≤ 10000 then lcGo vs gt tt te ds (wipeS ρ3 vs) (acc ++ [y]) else .bad) = .exc e ρ' := h
            split at h
            · exact lcGo_noexc h
            · cases h
        · exact lcGo_noexc h
theorem Ok_len {s t : S} (a : s.Ok g) (b : t.Ok g) (e : s.σ.length = t.σ.length) : s.ρ.length = t.ρ.length := by rw [← a.len, ← b.len, e]
theorem se_lc {wi : TI} {gt : TG} {tt : TT} {te : TE} {vs ts : List Nat} {ai : AI} {ag : AG} {at_ : AT} {ae : AE} (hi : SI g E wi ai) (hg : SG g gt ag ts) (hts : ∀ j ∈ ts, j ∈ vs) (ht : ST g E0 tt at_) (he : SE g E0 te ae) :
    SE g E (tLc wi gt tt te vs) (aLc vs ai ag at_ ae) := fun s Q ok h =>
  hi s _ ok ((Aft.bind h).mono fun ds F1 H1 W1 ρ1 ok1 go1 h1 J hJ p hp => by
    dsimp only at h1
    split at h1
    case isFalse => exact h1.elim
    case isTrue c =>
    have hpl : ∀ v ∈ vs, plainS (sl ρ1 v) = true := fun v hv => List.all_eq_true.mp c v hv
    have hnp : ∀ v ∈ vs, noPin (sl ρ1 v) = true := fun v hv => plain_noPin (hpl v hv)
    cases hR : lcGo vs ag at_ ae ds (wipeS ρ1 vs) [] with
    | exc e ρ' =>
      exfalso
      exact lcGo_noexc hR
    | bad => rw [hR] at h1; exact h1.elim
    | ok accZ ρZ =>
    rw [hR] at h1
    have fp1 : F1 p = none := ok1.ex.free hp
    have nW1 : ¬ W1 p := fun q => (ok1.fw p q).2 hp
    have okw : (S.mk F1 H1 W1 (wipe s.σ vs) (wipeS ρ1 vs)).Ok g := S.Ok.wiped (s := ⟨F1, H1, W1, s.σ, ρ1⟩) vs ok1
    refine ⟨fun i m H => m = ds.length - i ∧ i ≤ ds.length ∧ ∃ F W ρ accV accD, LcAt g ⟨F1, H1, W1, wipe s.σ vs, wipeS ρ1 vs⟩ p ⟨F, H, W, wipe s.σ vs, ρ⟩ accV accD ∧ lcGo vs ag at_ ae (ds.drop i) ρ accD = .ok accZ ρZ, ⟨_, rfl, Nat.zero_le _, F1, W1, wipeS ρ1 vs, [], [], ?_, ?_⟩, ?_⟩
    · exact { ok := S.Ok.more (s := ⟨F1, H1, W1, wipe s.σ vs, wipeS ρ1 vs⟩) okw fp1 nW1
              side := ⟨.refl _, fun x v h hw => Ex.new hp x v h, fun _ _ h _ => h, fun _ h => .inl h, fp1, nW1⟩
              hp := upd_same
              rp := .nil
              ln := rfl
              pk := fun i m h => ⟨m, h⟩ }
    · exact hR
    · rintro i m H ⟨rfl, hil, F, W, ρ, accV, accD, A, hgo⟩
      have hx := hJ i F H A.side.f A.ok.ex
      by_cases hlt : i < ds.length
      · refine .inr ⟨hx.1 hlt, _, fun H' q => q, fun x H2 hy => ?_⟩
        obtain ⟨d, hd, hdr⟩ := drop_step hlt
        rw [hdr] at hgo
        unfold lcGo at hgo
        split at hgo
        · cases hgo
        · rename_i ρg eg
          -- the item
          obtain ⟨F2, ok2, go2, r2⟩ : ∃ F2, (S.mk F2 H2 W (wipe s.σ vs) ρ).Ok g ∧ Go ⟨F, H, W, wipe s.σ vs, ρ⟩ ⟨F2, H2, W, wipe s.σ vs, ρ⟩ ∧ Rep g.K F2 x d := by
            rcases hx.2.2 x H2 hy d hd with ⟨rfl, r⟩ | ⟨q, o, hq, rfl, r⟩ | ⟨q, o, q2, u, hq, hq2, rfl, r⟩
            · exact ⟨F, A.ok, Go.refl _, r⟩
            · obtain ⟨o1, o2⟩ := S.Ok.new (o := o) A.ok hq
              exact ⟨_, o1, o2, r⟩
            · obtain ⟨o1, o2⟩ := S.Ok.new (o := o) (p := q) A.ok hq
              obtain ⟨o3, o4⟩ := S.Ok.new (o := u) o1 hq2
              exact ⟨_, o3, o2.trans o4, r⟩
          have hp2 := (keepD go2 A.side.fp A.hp A.side.nW).2.1
          have sd2 := A.side.go A.hp go2
          refine hg ⟨F2, H2, W, wipe s.σ vs, ρ⟩ x d ρg _ ok2 r2 eg fun σ3 ok3 go3 off3 => ⟨wipe_of_off off3 hts, ?_⟩
          obtain ⟨b, ρ4, et, hgo⟩ := bind_ok hgo
          have et := nox_ok et
          refine ht ⟨F2, H2, W, σ3, ρg⟩ _ ok3 ?_
          rw [show at_ (S.mk F2 H2 W σ3 ρg).ρ = .ok b ρ4 from et]
          intro F4 H4 W4 ok4 go4
          have hp4 := (keepD go4 sd2.fp hp2 sd2.nW).2.1
          have sd4 : Side _ p ⟨F4, H4, W4, σ3, ρ4⟩ := (sd2.go hp2 go3).go hp2 go4
          have pk4 : ∀ (i : Nat) (m : Mu), ρ[i]? = some (Sl.pin m) → ∃ m', ρ4[i]? = some (Sl.pin m') := fun i m h => ((go2.trans go3).trans go4).pk i m h |>.2
          have wz : wipe σ3 vs = wipe s.σ vs := wipe_of_off off3 hts
          have wzl : σ3.length = s.σ.length := by rw [off3.1, wipe_len]
          have next : ∀ (F5 H5 : Hp) (W5 : Addr → Prop) (ρ5 : List Sl) (a5 : List V) (d5 : List PyData), (S.mk F5 H5 W5 σ3 ρ5).Ok g → (∀ (i : Nat) (m : Mu), ρ[i]? = some (Sl.pin m) → ∃ m', ρ5[i]? = some (Sl.pin m')) →
              Side ⟨F1, H1, W1, wipe s.σ vs, wipeS ρ1 vs⟩ p ⟨F5, H5, W5, σ3, ρ5⟩ → H5 p = some (.lst a5) → RepL g.K F5 a5 d5 → lcGo vs ag at_ ae (ds.drop (i + 1)) (wipeS ρ5 vs) d5 = .ok accZ ρZ →
              ∃ m', m' < ds.length - i ∧ m' = ds.length - (i + 1) ∧ i + 1 ≤ ds.length ∧ ∃ F W ρ accV accD, LcAt g ⟨F1, H1, W1, wipe s.σ vs, wipeS ρ1 vs⟩ p ⟨F, H5, W, wipe s.σ vs, ρ⟩ accV accD ∧ lcGo vs ag at_ ae (ds.drop (i + 1)) ρ accD = .ok accZ ρZ := fun F5 H5 W5 ρ5 a5 d5 ok5 pk5 sd5 hp5 rp5 go5 => by
            refine ⟨_, by omega, rfl, by omega, F5, W5, wipeS ρ5 vs, a5, d5, ?_, go5⟩
            have okw5 := S.Ok.wiped (s := ⟨F5, H5, W5, σ3, ρ5⟩) vs ok5
            have wz' : wipe (S.mk F5 H5 W5 σ3 ρ5).σ vs = wipe s.σ vs := wz
            rw [wz'] at okw5
            exact { ok := okw5
                    side := ⟨sd5.f, sd5.keep, sd5.fr, sd5.own, sd5.fp, sd5.nW⟩
                    hp := hp5
                    rp := rp5
                    ln := Ok_len okw5 okw rfl
                    pk := fun j m hj => by
                      have hj : (wipeS ρ1 vs)[j]? = some (Sl.pin m) := hj
                      obtain ⟨m1, h1⟩ := A.pk j m hj
                      obtain ⟨m2, h2⟩ := pk5 j m1 h1
                      have nj : j ∉ vs := fun q => by
                        have := wipeS_at ρ1 vs j _ q hj
                        cases this
                      exact ⟨m2, by show (wipeS ρ5 vs)[j]? = _; rw [wipeS_off ρ5 vs j nj]; exact h2⟩ }
          cases b with
          | false => exact next F4 H4 W4 ρ4 accV accD ok4 pk4 sd4 hp4 (A.rp.mono ((go2.trans go3).trans go4).f) hgo
          | true =>
            obtain ⟨y, ρ5, ee, hgo⟩ := bind_ok hgo
            have ee := nox_ok ee
            split at hgo
            case isFalse => cases hgo
            case isTrue csz =>
            refine he ⟨F4, H4, W4, σ3, ρ4⟩ _ ok4 ?_
            rw [show ae (S.mk F4 H4 W4 σ3 ρ4).ρ = .ok y ρ5 from ee]
            intro F5 H5 W5 ok5 go5 v rv
            have hp5 := (keepD go5 sd4.fp hp4 sd4.nW).2.1
            have sd5 : Side _ p ⟨F5, H5, W5, σ3, ρ5⟩ := sd4.go hp4 go5
            have rp5 : RepL g.K F5 accV accD := A.rp.mono (((go2.trans go3).trans go4).trans go5).f
            refine ⟨accV, hp5, by rw [rp5.length]; exact Nat.lt_of_le_of_lt csz (by decide), ?_⟩
            exact next F5 _ W5 ρ5 (accV ++ [v]) (accD ++ [y]) (S.Ok.more ok5 sd5.fp sd5.nW) (fun j m hj => by
              obtain ⟨m4, h4⟩ := pk4 j m hj
              exact (go5.pk j m4 h4).2) (Side.upd (t1 := ⟨F1, H1, W1, wipe s.σ vs, wipeS ρ1 vs⟩) (o := .lst (accV ++ [v])) hp sd5) upd_same (rp5.append (.cons rv .nil)) hgo
      · have hie : ds.length = i := by omega
        refine .inl ⟨hx.2.1 hie, ?_⟩
        rw [List.drop_eq_nil_of_le (by omega)] at hgo
        cases hgo
        -- the end: the list joins the data
        have okb := S.Ok.back (s := ⟨F1, H1, W1, s.σ, ρ1⟩) ok1 A.ok rfl (by
          have := A.ln
          show ρZ.length = ρ1.length
          rw [show ρZ.length = (wipeS ρ1 vs).length from this, wipeS_len]) A.side.f hpl
        have exF : Ex F (upd F p (.lst accV)) := Ex.new A.side.fp
        refine h1 (upd F p (.lst accV)) H W ⟨fun x u hx => ?_, fun x hx => ?_, okb.len, ?_⟩ ⟨A.side.f.trans exF, A.side.keep, fun x q1 q2 q3 => ?_, A.side.own, fun j m hj => ?_⟩ _ (.lst upd_same (A.rp.mono exF))
        · have hx : upd F p (.lst accV) x = some u := hx
          by_cases e : x = p
          · subst e
            rw [upd_same] at hx
            cases hx
            exact A.hp
          · rw [upd_ne e] at hx
            exact A.ok.ex x u hx
        · have hx : W x := hx
          have e : x ≠ p := fun e => A.side.nW (e ▸ hx)
          show upd F p (.lst accV) x = none ∧ H x ≠ none
          rw [upd_ne e]
          exact A.ok.fw x hx
        · obtain ⟨O, o1, o2, o3⟩ := okb.sl
          exact ⟨O, o1, o2, fun j x hx => (o3 j x hx).keep exF (fun _ _ _ => rfl) fun _ q => q⟩
        · have e : x ≠ p := fun e => q1 (by rw [e]; exact hp)
          show upd F p (.lst accV) x = none
          rw [upd_ne e]
          exact A.side.fr x q1 q2 q3
        · have hj : ρ1[j]? = some (Sl.pin m) := hj
          have nj := pin_off (s := ⟨F1, H1, W1, s.σ, ρ1⟩) hnp hj
          obtain ⟨m', hm'⟩ := A.pk j m (by show (wipeS ρ1 vs)[j]? = _; rw [wipeS_off ρ1 vs j nj]; exact hj)
          exact ⟨rfl, m', by show (backS ρ1 ρZ vs)[j]? = _; rw [backS_off ρ1 ρZ vs j nj]; exact hm'⟩)
end
end DL

namespace DL
open PySem PySem.Spec PyProof.Rows L2

/-! ### statements -/
inductive SRes where
  | nx (ρ : List Sl)
  | rt (d : PyData) (ρ : List Sl)
  | bk (ρ : List Sl)
  | ct (ρ : List Sl)
  | exc (e : Nat) (ρ : List Sl)
  | bad
structure KE where
  nx : S → Prop
  rt : PyData → S → Prop
  bk : S → Prop
  ct : S → Prop
def KE.of (g : G) (D : Ends) : KE := ⟨fun t => D.nx t.σ t.H, fun d t => ∀ v, Rep g.K t.F v d → D.rt v t.H, fun t => D.bk t.σ t.H, fun t => D.ct t.σ t.H⟩
def AftS (g : G) (E : EX) (s : S) : SRes → KE → Prop
  | .nx ρ, k => ∀ t : S, t.ρ = ρ → t.Ok g → Go s t → k.nx t
  | .rt d ρ, k => ∀ t : S, t.ρ = ρ → t.Ok g → Go s t → k.rt d t
  | .bk ρ, k => ∀ t : S, t.ρ = ρ → t.Ok g → Go s t → k.bk t
  | .ct ρ, k => ∀ t : S, t.ρ = ρ → t.Ok g → Go s t → k.ct t
  | .exc e ρ, _ => ∀ t : S, t.ρ = ρ → t.Ok g → Go s t → E t.σ (g.cls e) none t.H
  | .bad, _ => False
abbrev AS := List Sl → SRes
def SS (g : G) (E : EX) (ts : TS) (a : AS) : Prop := ∀ (s : S) (D : Ends), s.Ok g → AftS g E s (a s.ρ) (KE.of g D) → ts D s.σ s.H
def SRes.seq (r : SRes) (f : AS) : SRes := match r with
  | .nx ρ => f ρ
  | .rt d ρ => .rt d ρ
  | .bk ρ => .bk ρ
  | .ct ρ => .ct ρ
  | .exc e ρ => .exc e ρ
  | .bad => .bad
/-- an expression's outcome, then a statement's -/
def Res.thn {α : Type} (r : Res α) (f : α → List Sl → SRes) : SRes := match r with
  | .ok d ρ => f d ρ
  | .exc e ρ => .exc e ρ
  | .bad => .bad
section
variable {g : G} {E : EX}
theorem AftS.from {s t : S} {k : KE} (go : Go s t) : ∀ {r : SRes}, AftS g E s r k → AftS g E t r k
  | .nx ρ, h => fun u e ok go' => h u e ok (go.trans go')
  | .rt d ρ, h => fun u e ok go' => h u e ok (go.trans go')
  | .bk ρ, h => fun u e ok go' => h u e ok (go.trans go')
  | .ct ρ, h => fun u e ok go' => h u e ok (go.trans go')
  | .exc x ρ, h => fun u e ok go' => h u e ok (go.trans go')
  | .bad, h => h
theorem AftS.thn {α : Type} {s : S} {f : α → List Sl → SRes} {k : KE} : ∀ {r : Res α}, AftS g E s (r.thn f) k → Aft g E s r (fun d t => AftS g E t (f d t.ρ) k)
  | .ok d ρ, h => fun F H W ok go => h.from go
  | .exc e ρ, h => fun F H W ok go => h ⟨F, H, W, s.σ, ρ⟩ rfl ok go
  | .bad, h => h
theorem AftS.seq {s : S} {f : AS} {k : KE} : ∀ {r : SRes}, AftS g E s (r.seq f) k → AftS g E s r { k with nx := fun t => AftS g E t (f t.ρ) k }
  | .nx ρ, h => fun t e ok go => by
    subst e
    exact AftS.from go (show AftS g E s (f t.ρ) k from h)
  | .rt d ρ, h => h
  | .bk ρ, h => h
  | .ct ρ, h => h
  | .exc e ρ, h => h
  | .bad, h => h
theorem AftS.mono {s : S} {k k' : KE} (h1 : ∀ t, t.Ok g → Go s t → k.nx t → k'.nx t) (h2 : ∀ d t, t.Ok g → Go s t → k.rt d t → k'.rt d t) (h3 : ∀ t, t.Ok g → Go s t → k.bk t → k'.bk t) (h4 : ∀ t, t.Ok g → Go s t → k.ct t → k'.ct t) : ∀ {r : SRes}, AftS g E s r k → AftS g E s r k'
  | .nx ρ, h => fun t e ok go => h1 t ok go (h t e ok go)
  | .rt d ρ, h => fun t e ok go => h2 d t ok go (h t e ok go)
  | .bk ρ, h => fun t e ok go => h3 t ok go (h t e ok go)
  | .ct ρ, h => fun t e ok go => h4 t ok go (h t e ok go)
  | .exc e ρ, h => h
  | .bad, h => h

def asNext : AS := fun ρ => .nx ρ
def asSeq (a b : AS) : AS := fun ρ => (a ρ).seq b
def asBreak : AS := fun ρ => .bk ρ
def asCont : AS := fun ρ => .ct ρ
def asBad : AS := fun _ => .bad
def asDrop (a : AE) : AS := fun ρ => (a ρ).thn fun _ ρ1 => .nx ρ1
def asRet (a : AE) : AS := fun ρ => (a ρ).thn fun d ρ1 => .rt d ρ1
def asIf (c : AT) (a b : AS) : AS := fun ρ => (c ρ).thn fun x ρ1 => if x = true then a ρ1 else b ρ1
def asAsg (a : AE) (gt : AG) : AS := fun ρ => (a ρ).thn fun d ρ1 => match gt d ρ1 with | some ρ2 => .nx ρ2 | none => .bad
theorem ss_next : SS g E tNext asNext := fun s D ok h => h s rfl ok (Go.refl s)
theorem ss_never : SS g E tNever asBad := fun s D ok h => h.elim
theorem ss_break : SS g E tBreak asBreak := fun s D ok h => h s rfl ok (Go.refl s)
theorem ss_cont : SS g E tCont asCont := fun s D ok h => h s rfl ok (Go.refl s)
theorem ss_seq {t u : TS} {a b : AS} (ha : SS g E t a) (hb : SS g E u b) : SS g E (tSeq t u) (asSeq a b) := fun s D ok h => by
  have h1 := AftS.seq (f := b) (show AftS g E s ((a s.ρ).seq b) (KE.of g D) from h)
  refine ha s { D with nx := u D } ok (AftS.mono ?_ ?_ ?_ ?_ h1)
  · exact fun t okt _ k => hb t D okt k
  · exact fun _ _ _ _ k => k
  · exact fun _ _ _ k => k
  · exact fun _ _ _ k => k
theorem ss_drop {te : TE} {a : AE} (ha : SE g E te a) : SS g E (tDrop te) (asDrop a) := fun s D ok h =>
  ha s _ ok ((AftS.thn h).mono fun d F H W ρ ok1 go1 k v rv => k ⟨F, H, W, s.σ, ρ⟩ rfl ok1 (Go.refl _))
theorem ss_ret {te : TE} {a : AE} (ha : SE g E te a) : SS g E (tRet te) (asRet a) := fun s D ok h =>
  ha s _ ok ((AftS.thn h).mono fun d F H W ρ ok1 go1 k v rv => k ⟨F, H, W, s.σ, ρ⟩ rfl ok1 (Go.refl _) v rv)
theorem ss_if {t : TT} {u w : TS} {c : AT} {a b : AS} (hc : ST g E t c) (ha : SS g E u a) (hb : SS g E w b) : SS g E (tIfS t u w) (asIf c a b) := fun s D ok h =>
  hc s _ ok ((AftS.thn h).mono fun x F H W ρ ok1 go1 k => by
    cases x with
    | true => exact ha ⟨F, H, W, s.σ, ρ⟩ D ok1 k
    | false => exact hb ⟨F, H, W, s.σ, ρ⟩ D ok1 k)
theorem ss_asg {te : TE} {gt : TG} {a : AE} {ag : AG} {ts : List Nat} (ha : SE g E te a) (hg : SG g gt ag ts) : SS g E (tAsg te gt) (asAsg a ag) := fun s D ok h =>
  ha s _ ok ((AftS.thn h).mono fun d F H W ρ ok1 go1 k v rv => by
    dsimp only at k
    split at k
    · rename_i ρ2 e
      exact hg ⟨F, H, W, s.σ, ρ⟩ v d ρ2 _ ok1 rv e fun σ' ok2 go2 _ => k ⟨F, H, W, σ', ρ2⟩ rfl ok2 go2
    · exact k.elim)
/-- a, b = e1, e2 -/
def asPar (i j : Nat) (a : AD) : AS := fun ρ => (a ρ).thn fun ds ρ1 => match ds with
  | [d1, d2] => match putS ρ1 i (.dat d1) with
    | some ρ2 => match putS ρ2 j (.dat d2) with
      | some ρ3 => .nx ρ3
      | none => .bad
    | none => .bad
  | _ => .bad
theorem ss_par {i j : Nat} {ta : TA} {a : AD} (ha : SD g E ta a) : SS g E (tPar i j ta) (asPar i j a) := fun s D ok h =>
  ha s _ ok ((AftS.thn h).mono fun ds F H W ρ ok1 go1 k vs rs => by
    dsimp only at k
    split at k
    · split at k
      · rename_i e1
        split at k
        · rename_i e2
          cases rs with | cons r1 r2 =>
          cases r2 with | cons r2 r3 =>
          cases r3
          obtain ⟨h1, h2, rfl⟩ := putS_some e1
          obtain ⟨h3, h4, rfl⟩ := putS_some e2
          obtain ⟨ok2, go2⟩ := S.Ok.put (s := ⟨F, H, W, s.σ, ρ⟩) ok1 r1 h1 h2
          obtain ⟨ok3, go3⟩ := S.Ok.put ok2 r2 h3 h4
          exact ⟨_, _, rfl, k _ rfl ok3 (go2.trans go3)⟩
        · exact k.elim
      · exact k.elim
    · exact k.elim)

/-! ### loops -/
def forGo (gt : AG) (b : AS) : List PyData → List Sl → SRes
  | [], ρ => .nx ρ
  | d :: ds, ρ => match gt d ρ with
    | none => .bad
    | some ρ1 => match b ρ1 with
      | .nx ρ2 => forGo gt b ds ρ2
      | .ct ρ2 => forGo gt b ds ρ2
      | .bk ρ2 => .nx ρ2
      | .rt d ρ2 => .rt d ρ2
      | .exc e ρ2 => .exc e ρ2
      | .bad => .bad
def asFor (ai : AI) (gt : AG) (b : AS) : AS := fun ρ => (ai ρ).thn fun ds ρ1 => forGo gt b ds ρ1
theorem ss_for {wi : TI} {gt : TG} {tb : TS} {ai : AI} {ag : AG} {b : AS} {ts : List Nat} (hi : SI g E wi ai) (hg : SG g gt ag ts) (hb : SS g E tb b) : SS g E (tFor wi gt tb) (asFor ai ag b) := fun s D ok h =>
  hi s _ ok ((AftS.thn h).mono fun ds F1 H1 W1 ρ1 ok1 go1 h1 J hJ => by
    refine ⟨fun i m σ H => m = ds.length - i ∧ i ≤ ds.length ∧ ∃ F W ρ, (S.mk F H W σ ρ).Ok g ∧ Ex F1 F ∧ AftS g E ⟨F, H, W, σ, ρ⟩ (forGo ag b (ds.drop i) ρ) (KE.of g D), ⟨_, rfl, Nat.zero_le _, F1, W1, ρ1, ok1, .refl _, h1⟩, ?_⟩
    rintro i m σ H ⟨rfl, hil, F, W, ρ, okt, ef, ha⟩
    have hx := hJ i F H ef okt.ex
    by_cases hlt : i < ds.length
    · refine .inr ⟨hx.1 hlt, _, fun σ' H' q => q, fun x H2 hy => ?_⟩
      obtain ⟨d, hd, hdr⟩ := drop_step hlt
      rw [hdr] at ha
      obtain ⟨F2, ok2, go2, r2⟩ : ∃ F2, (S.mk F2 H2 W σ ρ).Ok g ∧ Go ⟨F, H, W, σ, ρ⟩ ⟨F2, H2, W, σ, ρ⟩ ∧ Rep g.K F2 x d := by
        rcases hx.2.2 x H2 hy d hd with ⟨rfl, r⟩ | ⟨q, o, hq, rfl, r⟩ | ⟨q, o, q2, u, hq, hq2, rfl, r⟩
        · exact ⟨F, okt, Go.refl _, r⟩
        · obtain ⟨o1, o2⟩ := S.Ok.new (o := o) okt hq
          exact ⟨_, o1, o2, r⟩
        · obtain ⟨o1, o2⟩ := S.Ok.new (o := o) (p := q) okt hq
          obtain ⟨o3, o4⟩ := S.Ok.new (o := u) o1 hq2
          exact ⟨_, o3, o2.trans o4, r⟩
      replace ha := AftS.from go2 ha
      unfold forGo at ha
      split at ha
      · exact ha.elim
      · rename_i ρg eg
        refine hg ⟨F2, H2, W, σ, ρ⟩ x d ρg _ ok2 r2 eg fun σ3 ok3 go3 _ => hb ⟨F2, H2, W, σ3, ρg⟩ _ ok3 ?_
        replace ha := AftS.from go3 ha
        have ef2 : Ex F1 F2 := ef.trans go2.f
        have next : ∀ t : S, t.Ok g → Go ⟨F2, H2, W, σ3, ρg⟩ t → AftS g E t (forGo ag b (ds.drop (i + 1)) t.ρ) (KE.of g D) →
            ∃ m', m' < ds.length - i ∧ m' = ds.length - (i + 1) ∧ i + 1 ≤ ds.length ∧ ∃ F W ρ, (S.mk F t.H W t.σ ρ).Ok g ∧ Ex F1 F ∧ AftS g E ⟨F, t.H, W, t.σ, ρ⟩ (forGo ag b (ds.drop (i + 1)) ρ) (KE.of g D) :=
          fun t ok4 go4 h4 => ⟨_, by omega, rfl, by omega, t.F, t.W, t.ρ, ok4, ef2.trans go4.f, h4⟩
        show AftS g E _ (b ρg) _
        cases e : b ρg with
        | nx ρ4 =>
          rw [e] at ha
          intro t et okt' got
          subst et
          exact next t okt' got (AftS.from got ha)
        | ct ρ4 =>
          rw [e] at ha
          intro t et okt' got
          subst et
          exact next t okt' got (AftS.from got ha)
        | bk ρ4 => rw [e] at ha; exact ha
        | rt d ρ4 => rw [e] at ha; exact ha
        | exc x ρ4 => rw [e] at ha; exact ha
        | bad => rw [e] at ha; exact ha.elim
    · rw [List.drop_eq_nil_of_le (by omega)] at ha
      exact .inl ⟨hx.2.1 (by omega), ha ⟨F, H, W, σ, ρ⟩ rfl okt (Go.refl _)⟩)
def whileGo (c : AT) (b : AS) : Nat → List Sl → SRes
  | 0, _ => .bad
  | n + 1, ρ => (c ρ).thn fun x ρ1 => if x = true then (match b ρ1 with
      | .nx ρ2 => whileGo c b n ρ2
      | .ct ρ2 => whileGo c b n ρ2
      | .bk ρ2 => .nx ρ2
      | .rt d ρ2 => .rt d ρ2
      | .exc e ρ2 => .exc e ρ2
      | .bad => .bad) else .nx ρ1
def asWhile (n : Nat) (c : AT) (b : AS) : AS := whileGo c b n
theorem ss_while {n : Nat} {tc : TT} {tb : TS} {c : AT} {b : AS} (hc : ST g E tc c) (hb : SS g E tb b) : SS g E (tWhile tc tb) (asWhile n c b) := fun s D ok h => by
  refine ⟨fun m σ H => ∃ F W ρ, (S.mk F H W σ ρ).Ok g ∧ AftS g E ⟨F, H, W, σ, ρ⟩ (whileGo c b m ρ) (KE.of g D), ⟨n, s.F, s.W, s.ρ, ok, h⟩, ?_⟩
  rintro m σ H ⟨F, W, ρ, okt, ha⟩
  cases m with
  | zero => exact ha.elim
  | succ m =>
    unfold whileGo at ha
    refine hc ⟨F, H, W, σ, ρ⟩ _ okt ((AftS.thn ha).mono fun x F1 H1 W1 ρ1 ok1 go1 k => ?_)
    cases x with
    | false => exact k ⟨F1, H1, W1, σ, ρ1⟩ rfl ok1 (Go.refl _)
    | true =>
      refine iteT ⟨fun σ' H' => ∃ F W ρ, (S.mk F H' W σ' ρ).Ok g ∧ AftS g E ⟨F, H', W, σ', ρ⟩ (whileGo c b m ρ) (KE.of g D), fun σ' H' q => ⟨m, by omega, q⟩, hb ⟨F1, H1, W1, σ, ρ1⟩ _ ok1 ?_⟩
      show AftS g E _ (b ρ1) _
      have k : AftS g E ⟨F1, H1, W1, σ, ρ1⟩ (match b ρ1 with
        | .nx ρ2 => whileGo c b m ρ2
        | .ct ρ2 => whileGo c b m ρ2
        | .bk ρ2 => .nx ρ2
        | .rt d ρ2 => .rt d ρ2
        | .exc e ρ2 => .exc e ρ2
        | .bad => .bad) (KE.of g D) := k
      cases e : b ρ1 with
      | nx ρ4 =>
        rw [e] at k
        intro t et okt' got
        subst et
        exact ⟨t.F, t.W, t.ρ, okt', AftS.from got k⟩
      | ct ρ4 =>
        rw [e] at k
        intro t et okt' got
        subst et
        exact ⟨t.F, t.W, t.ρ, okt', AftS.from got k⟩
      | bk ρ4 => rw [e] at k; exact k
      | rt d ρ4 => rw [e] at k; exact k
      | exc x ρ4 => rw [e] at k; exact k
      | bad => rw [e] at k; exact k.elim
end
end DL

namespace DL
open PySem PySem.Spec PyProof.Rows L2
section
variable {g : G} {E : EX}
/-! ### lists that are being built -/
/-- the slot i changes with its object at p -/
theorem S.Ok.chg {s : S} {i : Nat} {x' : Sl} {p : Addr} {o : HO} (ok : s.Ok g) (hi : i < s.ρ.length)
    (h : ∀ P, SlOk g s.F s.H P (s.σ[i]?.join) (DL.sl s.ρ i) → P p ∧ SlOk g s.F (upd s.H p o) P (s.σ[i]?.join) x') (hpk : ∀ m, DL.sl s.ρ i = .pin m → ∃ m', x' = .pin m') :
    (S.mk s.F (upd s.H p o) s.W s.σ (s.ρ.set i x')).Ok g ∧ Go s ⟨s.F, upd s.H p o, s.W, s.σ, s.ρ.set i x'⟩ := by
  obtain ⟨O, h1, h2, h3⟩ := ok.sl
  have hs := h3 i (DL.sl s.ρ i) (by rw [List.getElem?_eq_getElem hi]; exact congrArg some (sl_of (List.getElem?_eq_getElem hi)).symm)
  obtain ⟨hp, hx⟩ := h (O i) hs
  have wp := h1 i p hp
  refine ⟨⟨fun a u ha => ?_, fun a ha => ?_, by show s.σ.length = (s.ρ.set i x').length; rw [List.length_set]; exact ok.len, O, h1, h2, fun j x hj => ?_⟩, ⟨.refl _, fun a u ha hw => ?_, fun a _ ha _ => ha, fun a ha => .inl ha, fun j m hj => ?_⟩⟩
  · have ha : s.F a = some u := ha
    have : a ≠ p := fun e => by
      rw [e, (ok.fw p wp).1] at ha; cases ha
    show upd s.H p o a = some u
    rw [upd_ne this]; exact ok.ex a u ha
  · have ha : s.W a := ha
    refine ⟨(ok.fw a ha).1, ?_⟩
    show upd s.H p o a ≠ none
    by_cases e : a = p
    · subst e; rw [upd_same]; exact fun q => nomatch q
    · rw [upd_ne e]; exact (ok.fw a ha).2
  · have hj : (s.ρ.set i x')[j]? = some x := hj
    show SlOk g s.F (upd s.H p o) (O j) (s.σ[j]?.join) x
    by_cases e : i = j
    · subst e
      rw [List.getElem?_set_self hi] at hj
      cases hj
      exact hx
    · rw [List.getElem?_set_ne e] at hj
      exact (h3 j x hj).keep (.refl _) (fun a ha _ => upd_ne fun (q : a = p) => e (h2 i j p hp (by rw [← q]; exact ha))) fun _ q => q
  · show upd s.H p o a = some u
    rw [upd_ne fun (q : a = p) => hw (by rw [q]; exact wp)]; exact ha
  · refine ⟨rfl, ?_⟩
    show ∃ m', (s.ρ.set i x')[j]? = some (.pin m')
    by_cases e : i = j
    · subst e
      obtain ⟨m', rfl⟩ := hpk m (sl_of hj)
      exact ⟨m', List.getElem?_set_self hi⟩
    · rw [List.getElem?_set_ne e]; exact ⟨m, hj⟩
/-- a new object, owned by the slot i -/
theorem S.Ok.newOwn {s : S} {i : Nat} {x' : Sl} {p : Addr} {o : HO} (ok : s.Ok g) (hp : s.H p = none) (hi : i < s.ρ.length) (hn : noPin (DL.sl s.ρ i) = true)
    (h : SlOk g s.F (upd s.H p o) (fun a => a = p) (some (.ref p)) x') :
    (S.mk s.F (upd s.H p o) (fun a => s.W a ∨ a = p) (s.σ.set i (some (.ref p))) (s.ρ.set i x')).Ok g ∧ Go s ⟨s.F, upd s.H p o, fun a => s.W a ∨ a = p, s.σ.set i (some (.ref p)), s.ρ.set i x'⟩ := by
  obtain ⟨O, h1, h2, h3⟩ := ok.sl
  have fp := ok.ex.free hp
  have nW : ∀ a, s.W a → a ≠ p := fun a ha e => (ok.fw a ha).2 (by rw [e]; exact hp)
  have hi' : i < s.σ.length := by rw [ok.len]; exact hi
  refine ⟨⟨fun a u ha => Ex.new hp a u (ok.ex a u ha), fun a ha => ?_, by show (s.σ.set i _).length = (s.ρ.set i x').length; rw [List.length_set, List.length_set]; exact ok.len,
    fun j a => if j = i then a = p else O j a, fun j a ha => ?_, fun j k a ha hb => ?_, fun j x hj => ?_⟩, ⟨.refl _, fun a u ha _ => Ex.new hp a u ha, fun a _ ha _ => ha, fun a ha => ?_, fun j m hj => ?_⟩⟩
  · show s.F a = none ∧ upd s.H p o a ≠ none
    rcases (show s.W a ∨ a = p from ha) with ha | rfl
    · rw [upd_ne (nW a ha)]; exact ok.fw a ha
    · rw [upd_same]; exact ⟨fp, fun q => nomatch q⟩
  · dsimp only at ha
    split at ha
    · exact .inr ha
    · exact .inl (h1 j a ha)
  · dsimp only at ha hb
    split at ha
    · split at hb
      · rename_i e1 e2; rw [e1, e2]
      · exact absurd ha (nW a (h1 k a hb))
    · split at hb
      · exact absurd hb (nW a (h1 j a ha))
      · exact h2 j k a ha hb
  · have hj : (s.ρ.set i x')[j]? = some x := hj
    show SlOk g s.F (upd s.H p o) (fun a => if j = i then a = p else O j a) ((s.σ.set i (some (.ref p)))[j]?.join) x
    by_cases e : i = j
    · subst e
      rw [List.getElem?_set_self hi] at hj
      cases hj
      rw [List.getElem?_set_self hi']
      exact SlOk.keep (.refl _) (fun _ _ _ => rfl) (fun a ha => by rw [if_pos rfl]; exact ha) h
    · rw [List.getElem?_set_ne e] at hj ⊢
      exact (h3 j x hj).keep (.refl _) (fun a ha _ => upd_ne (nW a (h1 j a ha))) fun a ha => by rw [if_neg (Ne.symm e)]; exact ha
  · rcases (show s.W a ∨ a = p from ha) with ha | rfl
    · exact .inl ha
    · exact .inr hp
  · have e : i ≠ j := fun e => by
      subst e
      rw [sl_of hj] at hn
      cases hn
    show (s.σ.set i _)[j]? = s.σ[j]? ∧ ∃ m', (s.ρ.set i x')[j]? = some (.pin m')
    rw [List.getElem?_set_ne e, List.getElem?_set_ne e]
    exact ⟨rfl, m, hj⟩
theorem putS_lt {ρ : List Sl} {i : Nat} {x : Sl} (h : sl ρ i = x) (q : x ≠ .none) : i < ρ.length := (List.getElem?_eq_some_iff.mp (sl_get h q)).1
/-- x = [..], to be built on -/
def asOwnL (i : Nat) (a : AD) : AS := fun ρ => (a ρ).thn fun ds ρ1 => if ds.length ≤ 1000 then (match putS ρ1 i (.own (.list ds)) with | some ρ2 => .nx ρ2 | none => .bad) else .bad
theorem ss_ownL {i : Nat} {ta : TA} {a : AD} (ha : SD g E ta a) : SS g E (tAsg (tLst ta) (gName i)) (asOwnL i a) := fun s D ok h =>
  ha s _ ok ((AftS.thn h).mono fun ds F H W ρ ok1 go1 k vs rs => by
    dsimp only at k
    split at k
    · rename_i c
      split at k
      · rename_i e
        obtain ⟨h1, h2, rfl⟩ := putS_some e
        refine ⟨by rw [rs.length]; exact sz_of c, fun p hp => ?_⟩
        obtain ⟨ok2, go2⟩ := S.Ok.newOwn (s := ⟨F, H, W, s.σ, ρ⟩) (p := p) (o := .lst vs) (x' := .own (.list ds)) ok1 hp h1 h2 ⟨p, vs, rfl, rfl, upd_same, rs⟩
        exact k _ rfl ok2 go2
      · exact k.elim
    · exact k.elim)
/-- the town -/
def asTown (i : Nat) : AS := fun ρ => match putS ρ i (.pin (.town 0)) with | some ρ2 => .nx ρ2 | none => .bad
theorem ss_town {i : Nat} : SS g E (tAsg (tLst tNil) (gName i)) (asTown i) := fun s D ok h => by
  unfold asTown at h
  split at h
  · rename_i e
    obtain ⟨h1, h2, rfl⟩ := putS_some e
    refine ⟨Nat.zero_le _, fun p hp => ?_⟩
    obtain ⟨ok2, go2⟩ := S.Ok.newOwn (p := p) (o := .lst []) (x' := .pin (.town 0)) ok hp h1 h2 ⟨p, rfl, rfl, upd_same⟩
    exact h _ rfl ok2 go2
  · exact h.elim
def asOwnD (i : Nat) : AS := fun ρ => match putS ρ i (.own (.dict [])) with | some ρ2 => .nx ρ2 | none => .bad
theorem ss_ownD {i : Nat} : SS g E (tAsg tDNewK (gName i)) (asOwnD i) := fun s D ok h => by
  unfold asOwnD at h
  split at h
  · rename_i e
    obtain ⟨h1, h2, rfl⟩ := putS_some e
    intro p hp
    obtain ⟨ok2, go2⟩ := S.Ok.newOwn (p := p) (o := .dK []) (x' := .own (.dict [])) ok hp h1 h2 ⟨p, [], rfl, rfl, upd_same, .nil⟩
    exact h _ rfl ok2 go2
  · exact h.elim
theorem join_of {s : S} {i : Nat} {v : V} (h : s.σ[i]? = some (some v)) : s.σ[i]?.join = some v := by rw [h]; rfl
/-- xs.append(e) -/
def asApp (i : Nat) (a : AE) : AS := fun ρ => match sl ρ i with
  | .own (.list _) => (a ρ).thn fun d ρ1 => match sl ρ1 i with
    | .own (.list ds) => if ds.length ≤ 10000 then .nx (ρ1.set i (.own (.list (ds ++ [d])))) else .bad
    | _ => .bad
  | _ => .bad
theorem own_val {s t : S} {i : Nat} {v : V} (ok : s.Ok g) (e : t.σ = s.σ) (h : s.σ[i]? = some (some v)) : t.σ[i]? = some (some v) := by rw [e]; exact h
theorem ss_app {i : Nat} {te : TE} {a : AE} (ha : SE g E te a) : SS g E (tDrop (tBM g.K "list" rAppend (tVar i) (tCons te tNil))) (asApp i a) := fun s D ok h => by
  unfold asApp at h
  split at h
  · rename_i ds0 e0
    obtain ⟨v, hv, hw⟩ := own_at ok e0
    rcases hw with ⟨p, vs, ds', q, rfl, hp, hr⟩ | ⟨p, kvs, es, q, _⟩
    · cases q
      refine ⟨.ref p, hv, .inl ⟨rfl, vs, sqL_of hp⟩, ha s _ ok ((AftS.thn h).mono fun d F H W ρ ok1 go1 k v1 r1 => ?_)⟩
      dsimp only at k
      split at k
      · rename_i ds1 e1
        split at k
        · rename_i c
          obtain ⟨v', hv', hw'⟩ := own_at (s := ⟨F, H, W, s.σ, ρ⟩) ok1 e1
          have ev : V.ref p = v' := by
            have : (some (some (V.ref p))) = some (some v') := hv.symm.trans hv'
            simpa using this
          subst ev
          rcases hw' with ⟨p2, vs2, ds2, q, q2, hp2, hr2⟩ | ⟨_, _, _, q, _⟩
          · cases q
            cases q2
            refine ⟨p, vs2, v1, rfl, rfl, hp2, by rw [hr2.length]; exact Nat.lt_of_le_of_lt c (by decide), ?_⟩
            obtain ⟨ok2, go2⟩ := S.Ok.chg (s := ⟨F, H, W, s.σ, ρ⟩) (i := i) (p := p) (o := .lst (vs2 ++ [v1])) (x' := .own (.list (ds1 ++ [d]))) ok1 (putS_lt e1 fun q => nomatch q) (fun P hP => by
              have hP : SlOk g F H P (s.σ[i]?.join) (sl ρ i) := hP
              rw [e1] at hP
              obtain ⟨p3, vs3, q1, q2, q3, q4⟩ := hP
              rw [hv] at q1
              cases q1
              refine ⟨q2, p, vs2 ++ [v1], by show s.σ[i]?.join = _; rw [hv]; rfl, q2, upd_same, hr2.append (.cons r1 .nil)⟩) (fun m q => by
              have q : sl ρ i = .pin m := q
              rw [e1] at q; cases q)
            exact k _ rfl ok2 go2
          · cases q
        · exact k.elim
      · exact k.elim
    · cases q
  · exact h.elim
/-- town.append(0) -/
def asAppT (i : Nat) : AS := fun ρ => match sl ρ i with
  | .pin (.town n) => if n ≤ 1000000 then .nx (ρ.set i (.pin (.town (n + 1)))) else .bad
  | _ => .bad
theorem ss_appT {i : Nat} : SS g E (tDrop (tBM g.K "list" rAppend (tVar i) (tCons (tC (.int 0)) tNil))) (asAppT i) := fun s D ok h => by
  unfold asAppT at h
  split at h
  · rename_i n e0
    split at h
    · rename_i c
      obtain ⟨v, hv, P, p, ha, _, hs⟩ := pin_at ok e0
      cases ha
      refine ⟨.ref p, hv, .inl ⟨rfl, _, sqL_of hs⟩, p, _, .int 0, rfl, rfl, hs, by rw [List.length_replicate]; exact Nat.lt_of_le_of_lt c (by decide), ?_⟩
      obtain ⟨ok2, go2⟩ := S.Ok.chg (i := i) (p := p) (o := .lst (List.replicate n (.int 0) ++ [.int 0])) (x' := .pin (.town (n + 1))) ok (putS_lt e0 fun q => nomatch q) (fun P hP => by
        rw [e0] at hP
        obtain ⟨p3, q1, q2, q3⟩ := hP
        rw [hv] at q1
        cases q1
        exact ⟨q2, p, by rw [hv]; rfl, q2, by rw [upd_same, List.replicate_succ']⟩) (fun m q => ⟨_, rfl⟩)
      exact h _ rfl ok2 go2
    · exact h.elim
  · exact h.elim
end
end DL

namespace DL
open PySem PySem.Spec PyProof.Rows L2
section
variable {g : G} {E : EX}
theorem own_put {t : S} {i : Nat} {p : Addr} {vs' : List V} {ds ds' : List PyData} (ok : t.Ok g) (hv : t.σ[i]? = some (some (.ref p))) (e : sl t.ρ i = .own (.list ds)) (r : RepL g.K t.F vs' ds') :
    (S.mk t.F (upd t.H p (.lst vs')) t.W t.σ (t.ρ.set i (.own (.list ds')))).Ok g ∧ Go t ⟨t.F, upd t.H p (.lst vs'), t.W, t.σ, t.ρ.set i (.own (.list ds'))⟩ :=
  S.Ok.chg ok (putS_lt e fun q => nomatch q) (fun P hP => by
    rw [e, hv] at hP
    obtain ⟨p3, vs3, q1, q2, q3, q4⟩ := hP
    cases q1
    exact ⟨q2, p, vs', by rw [hv]; rfl, q2, upd_same, r⟩) (fun m q => by rw [e] at q; cases q)
theorem own_list {s : S} {i : Nat} {ds : List PyData} (ok : s.Ok g) (h : sl s.ρ i = .own (.list ds)) : ∃ p vs, s.σ[i]? = some (some (.ref p)) ∧ s.H p = some (.lst vs) ∧ RepL g.K s.F vs ds := by
  obtain ⟨v, hv, hw⟩ := own_at ok h
  rcases hw with ⟨p, vs, ds', q, rfl, hp, hr⟩ | ⟨p, kvs, es, q, _⟩
  · cases q; exact ⟨p, vs, hv, hp, hr⟩
  · cases q
/-- xs.extend(e) -/
def asExt (i : Nat) (a : AE) : AS := fun ρ => match sl ρ i with
  | .own (.list _) => (a ρ).thn fun d ρ1 => match d, sl ρ1 i with
    | .list zs, .own (.list ds) => if ds.length + zs.length ≤ 100000 then .nx (ρ1.set i (.own (.list (ds ++ zs)))) else .bad
    | _, _ => .bad
  | _ => .bad
theorem ss_ext {i : Nat} {te : TE} {a : AE} (ha : SE g E te a) : SS g E (tDrop (tBM g.K "list" rExtend (tVar i) (tCons te tNil))) (asExt i a) := fun s D ok h => by
  unfold asExt at h
  split at h
  · rename_i ds0 e0
    obtain ⟨p, vs, hv, hp, hr⟩ := own_list ok e0
    refine ⟨.ref p, hv, .inl ⟨rfl, vs, sqL_of hp⟩, ha s _ ok ((AftS.thn h).mono fun d F H W ρ ok1 go1 k v1 r1 => ?_)⟩
    dsimp only at k
    split at k
    · rename_i zs ds e1
      split at k
      · rename_i c
        obtain ⟨p2, vs2, hv2, hp2, hr2⟩ := own_list (s := ⟨F, H, W, s.σ, ρ⟩) ok1 e1
        have ev : p = p2 := by
          have : (some (some (V.ref p))) = some (some (V.ref p2)) := hv.symm.trans hv2
          simpa using this
        subst ev
        cases r1 with | lst hb rb =>
        refine ⟨p, _, vs2, _, rfl, rfl, hp2, ok1.ex _ _ hb, by rw [hr2.length, rb.length]; exact Nat.le_trans c (by decide), ?_⟩
        obtain ⟨ok2, go2⟩ := own_put (t := ⟨F, H, W, s.σ, ρ⟩) ok1 hv2 e1 (hr2.append rb)
        exact k _ rfl ok2 go2
      · exact k.elim
    · exact k.elim
  · exact h.elim
/-- xs[j] = e -/
def asSetI (i : Nat) (a b : AE) : AS := fun ρ => (a ρ).thn fun d ρ1 => match sl ρ1 i with
  | .own (.list _) => (b ρ1).thn fun j ρ2 => match j, sl ρ2 i with
    | .int k, .own (.list ds) => (match ixN ds.length k with | some n => .nx (ρ2.set i (.own (.list (ds.set n d)))) | none => .bad)
    | _, _ => .bad
  | _ => .bad
theorem ss_setI {i : Nat} {te tj : TE} {a b : AE} (ha : SE g E te a) (hb : SE g E tj b) : SS g E (tAsg te (gSub (tVar i) tj rSetL)) (asSetI i a b) := fun s D ok h =>
  ha s _ ok ((AftS.thn h).mono fun d F H W ρ ok1 go1 k v1 r1 => by
    dsimp only at k
    split at k
    · rename_i ds0 e0
      obtain ⟨p, vs, hv, hp, hr⟩ := own_list (s := ⟨F, H, W, s.σ, ρ⟩) ok1 e0
      refine ⟨.ref p, hv, hb ⟨F, H, W, s.σ, ρ⟩ _ ok1 ((AftS.thn k).mono fun j F2 H2 W2 ρ2 ok2 go2 k2 v2 r2 => ?_)⟩
      dsimp only at k2
      split at k2
      · rename_i z ds e1
        split at k2
        · rename_i n hn
          obtain ⟨p2, vs2, hv2, hp2, hr2⟩ := own_list (s := ⟨F2, H2, W2, s.σ, ρ2⟩) ok2 e1
          have ev : p = p2 := by
            have : (some (some (V.ref p))) = some (some (V.ref p2)) := hv.symm.trans hv2
            simpa using this
          subst ev
          cases r2
          refine ⟨p, vs2, z, n, rfl, rfl, hp2, by rw [hr2.length]; exact hn, ?_⟩
          obtain ⟨ok3, go3⟩ := own_put (t := ⟨F2, H2, W2, s.σ, ρ2⟩) ok2 hv2 e1 (hr2.set (r1.mono go2.f) n)
          exact k2 _ rfl ok3 go3
        · exact k2.elim
      · exact k2.elim
    · exact k.elim)
/-- what was built joins the data -/
def frz (i : Nat) (ρ : List Sl) : Option (List Sl) := match sl ρ i with
  | .own d => some (ρ.set i (.dat d))
  | _ => none
theorem S.Ok.frz {s : S} {i : Nat} {d : PyData} (ok : s.Ok g) (e : DL.sl s.ρ i = .own d) : ∃ F W, (S.mk F s.H W s.σ (s.ρ.set i (.dat d))).Ok g ∧ Go s ⟨F, s.H, W, s.σ, s.ρ.set i (.dat d)⟩ := by
  have hi := putS_lt e fun q => nomatch q
  obtain ⟨O, h1, h2, h3⟩ := ok.sl
  have hs := h3 i _ (sl_get e fun q => nomatch q)
  obtain ⟨p, o, hO, hHp, hσ, hrep⟩ : ∃ p o, O i p ∧ s.H p = some o ∧ s.σ[i]?.join = some (.ref p) ∧ ∀ F', Ex s.F F' → F' p = some o → Rep g.K F' (.ref p) d := by
    cases d with
    | list ds =>
      obtain ⟨p, vs, q1, q2, q3, q4⟩ := hs
      exact ⟨p, _, q2, q3, q1, fun F' e' q => .lst q (q4.mono e')⟩
    | dict es =>
      obtain ⟨p, vs, q1, q2, q3, q4⟩ := hs
      exact ⟨p, _, q2, q3, q1, fun F' e' q => .dic q (q4.mono e')⟩
    | none => exact hs.elim
    | bool b => exact hs.elim
    | int b => exact hs.elim
    | str b => exact hs.elim
    | tuple b => exact hs.elim
  have wp := h1 i p hO
  have fp := (ok.fw p wp).1
  have exF : Ex s.F (upd s.F p o) := Ex.new fp
  refine ⟨upd s.F p o, fun a => s.W a ∧ a ≠ p, ⟨fun a u ha => ?_, fun a ha => ?_, by show s.σ.length = (s.ρ.set i _).length; rw [List.length_set]; exact ok.len,
    fun j a => O j a ∧ a ≠ p, fun j a ha => ⟨h1 j a ha.1, ha.2⟩, fun j k a ha hb => h2 j k a ha.1 hb.1, fun j x hj => ?_⟩, ⟨exF, fun a u ha _ => ha, fun a _ hf hw => ?_, fun a ha => .inl ha.1, fun j m hj => ⟨rfl, ?_⟩⟩⟩
  · have ha : upd s.F p o a = some u := ha
    by_cases q : a = p
    · subst q
      rw [upd_same] at ha; cases ha
      exact hHp
    · rw [upd_ne q] at ha
      exact ok.ex a u ha
  · obtain ⟨ha, hn⟩ := (show s.W a ∧ a ≠ p from ha)
    show upd s.F p o a = none ∧ s.H a ≠ none
    rw [upd_ne hn]; exact ok.fw a ha
  · have hj : (s.ρ.set i (.dat d))[j]? = some x := hj
    show SlOk g (upd s.F p o) s.H (fun a => O j a ∧ a ≠ p) (s.σ[j]?.join) x
    by_cases q : i = j
    · subst q
      rw [List.getElem?_set_self hi] at hj
      cases hj
      exact ⟨.ref p, hσ, hrep _ exF upd_same⟩
    · rw [List.getElem?_set_ne q] at hj
      exact (h3 j x hj).keep exF (fun _ _ _ => rfl) fun a ha => ⟨ha, fun e => q (h2 i j p hO (e ▸ ha))⟩
  · show upd s.F p o a = none
    rw [upd_ne fun (q : a = p) => hw (by rw [q]; exact wp)]; exact hf
  · show ∃ m', (s.ρ.set i (.dat d))[j]? = some (.pin m')
    have q : i ≠ j := fun q => by
      subst q
      rw [sl_of hj] at e
      cases e
    rw [List.getElem?_set_ne q]
    exact ⟨m, hj⟩
def asFrz (i : Nat) (a : AS) : AS := fun ρ => match frz i ρ with | some ρ1 => a ρ1 | none => .bad
theorem ss_frz {i : Nat} {t : TS} {a : AS} (ha : SS g E t a) : SS g E t (asFrz i a) := fun s D ok h => by
  unfold asFrz at h
  split at h
  · rename_i ρ1 e
    unfold DL.frz at e
    split at e
    · rename_i d e1
      cases e
      obtain ⟨F, W, ok1, go1⟩ := S.Ok.frz ok e1
      exact ha ⟨F, s.H, W, s.σ, _⟩ D ok1 (AftS.from go1 h)
    · cases e
  · exact h.elim

/-! ### defs -/
inductive FRes where
  | ok (d : PyData) (ss : List Sl)
  | exc (e : Nat) (ss : List Sl)
  | bad
abbrev Fn := List Sl → FRes
def isPin : Sl → Bool
  | .pin _ => true
  | .none => false
  | .dat _ => false
  | .own _ => false
def pinsFrom (ρ : List Sl) : Nat → List Sl → List Sl
  | _, [] => []
  | k, .pin _ :: r => sl ρ k :: pinsFrom ρ (k + 1) r
  | k, _ :: r => .none :: pinsFrom ρ (k + 1) r
theorem pinsFrom_len (ρ : List Sl) : ∀ k ss, (pinsFrom ρ k ss).length = ss.length
  | _, [] => rfl
  | k, .pin _ :: r => congrArg (· + 1) (pinsFrom_len ρ (k + 1) r)
  | k, .none :: r | k, .dat _ :: r | k, .own _ :: r => congrArg (· + 1) (pinsFrom_len ρ (k + 1) r)
theorem pinsFrom_get (ρ : List Sl) : ∀ (k : Nat) (ss : List Sl) (i : Nat) (x : Sl), (pinsFrom ρ k ss)[i]? = some x → (∃ m, ss[i]? = some (.pin m) ∧ x = sl ρ (k + i)) ∨ x = .none
  | _, [], i, x, h => by simp [pinsFrom] at h
  | k, .pin m :: r, 0, x, h => .inl ⟨m, rfl, by have h : some (sl ρ k) = some x := h; exact (Option.some.inj h).symm⟩
  | k, .none :: r, 0, x, h | k, .dat _ :: r, 0, x, h | k, .own _ :: r, 0, x, h => .inr (by have h : some Sl.none = some x := h; exact (Option.some.inj h).symm)
  | k, .pin m :: r, i + 1, x, h => by
    rcases pinsFrom_get ρ (k + 1) r i x h with ⟨m, h1, h2⟩ | h1
    · exact .inl ⟨m, h1, by rw [h2, show k + 1 + i = k + (i + 1) by omega]⟩
    · exact .inr h1
  | k, .none :: r, i + 1, x, h | k, .dat _ :: r, i + 1, x, h | k, .own _ :: r, i + 1, x, h => by
    rcases pinsFrom_get ρ (k + 1) r i x h with ⟨m, h1, h2⟩ | h1
    · exact .inl ⟨m, h1, by rw [h2, show k + 1 + i = k + (i + 1) by omega]⟩
    · exact .inr h1
theorem pinsFrom_at (ρ : List Sl) : ∀ (k : Nat) (ss : List Sl) (i : Nat) (m : Mu), ss[i]? = some (.pin m) → (pinsFrom ρ k ss)[i]? = some (sl ρ (k + i))
  | _, [], i, m, h => by simp at h
  | k, .pin m :: r, 0, _, h => rfl
  | k, .none :: r, 0, _, h | k, .dat _ :: r, 0, _, h | k, .own _ :: r, 0, _, h => by cases h
  | k, .pin m :: r, i + 1, m', h | k, .none :: r, i + 1, m', h | k, .dat _ :: r, i + 1, m', h | k, .own _ :: r, i + 1, m', h => by
    have := pinsFrom_at ρ (k + 1) r i m' h
    rw [show k + 1 + i = k + (i + 1) by omega] at this
    exact this
/-- a def of n parameters and m names with the body b -/
def runF (n m : Nat) (b : AS) : Fn := fun ss => match b (ss ++ List.replicate (m - n) .none) with
  | .rt d ρ => .ok d (pinsFrom ρ 0 ss)
  | .nx ρ => .ok .none (pinsFrom ρ 0 ss)
  | .exc e ρ => .exc e (pinsFrom ρ 0 ss)
  | _ => .bad
def spG (g : G) (n : Nat) (f : Fn) : Sp := fun vs H Q E => vs.length = n ∧ ∃ F W ss, (S.mk F H W (vs.map some) ss).Ok g ∧ (match f ss with
  | .ok d ss' => ∀ v (t : S), t.σ = vs.map some → t.ρ = ss' → t.Ok g → Go ⟨F, H, W, vs.map some, ss⟩ t → Rep g.K t.F v d → Q v t.H
  | .exc e ss' => ∀ (t : S), t.σ = vs.map some → t.ρ = ss' → t.Ok g → Go ⟨F, H, W, vs.map some, ss⟩ t → E (g.cls e) none t.H
  | .bad => False)
/-- the state as the caller sees it again -/
theorem fn_end {F H : Hp} {W : Addr → Prop} {vs : List V} {ss more : List Sl} {mσ : L2.St} {t : S} (ok0 : (S.mk F H W (vs.map some) ss).Ok g) (okt : t.Ok g) (go : Go ⟨F, H, W, vs.map some ++ mσ, ss ++ more⟩ t) :
    (S.mk t.F t.H t.W (vs.map some) (pinsFrom t.ρ 0 ss)).Ok g ∧ Go ⟨F, H, W, vs.map some, ss⟩ ⟨t.F, t.H, t.W, vs.map some, pinsFrom t.ρ 0 ss⟩ := by
  have hl : (vs.map some).length = ss.length := ok0.len
  have pk : ∀ (i : Nat) (m : Mu), ss[i]? = some (Sl.pin m) → t.σ[i]? = (vs.map some)[i]? ∧ ∃ m', t.ρ[i]? = some (Sl.pin m') := fun i m h => by
    have hi := some_lt h
    obtain ⟨q1, q2⟩ := go.pk i m (by show (ss ++ more)[i]? = _; rw [List.getElem?_append_left hi]; exact h)
    refine ⟨?_, q2⟩
    have q1 : t.σ[i]? = (vs.map some ++ mσ)[i]? := q1
    rw [List.getElem?_append_left (by rw [hl]; exact hi)] at q1
    exact q1
  refine ⟨⟨okt.ex, okt.fw, by show (vs.map some).length = (pinsFrom t.ρ 0 ss).length; rw [pinsFrom_len]; exact hl, ?_⟩, ⟨go.f, go.keep, go.fr, go.own, fun i m h => ⟨rfl, ?_⟩⟩⟩
  · obtain ⟨O, h1, h2, h3⟩ := okt.sl
    refine ⟨O, h1, h2, fun i x hx => ?_⟩
    rcases pinsFrom_get t.ρ 0 ss i x hx with ⟨m, e1, e2⟩ | e
    · obtain ⟨q1, m', q2⟩ := pk i m e1
      rw [Nat.zero_add] at e2
      have := h3 i x (by rw [e2, sl_of q2]; exact q2)
      show SlOk g t.F t.H (O i) ((vs.map some)[i]?.join) x
      rw [← q1]; exact this
    · rw [e]; trivial
  · obtain ⟨q1, m', q2⟩ := pk i m h
    refine ⟨m', ?_⟩
    show (pinsFrom t.ρ 0 ss)[i]? = _
    rw [pinsFrom_at t.ρ 0 ss i m h, Nat.zero_add, sl_of q2]
theorem fn_start {F H : Hp} {W : Addr → Prop} {vs : List V} {ss : List Sl} (k : Nat) (ok0 : (S.mk F H W (vs.map some) ss).Ok g) : (S.mk F H W (vs.map some ++ List.replicate k none) (ss ++ List.replicate k .none)).Ok g := by
  have hl : (vs.map some).length = ss.length := ok0.len
  refine ⟨ok0.ex, ok0.fw, by show (vs.map some ++ _).length = (ss ++ _).length; rw [List.length_append, List.length_append, hl, List.length_replicate, List.length_replicate], ?_⟩
  obtain ⟨O, h1, h2, h3⟩ := ok0.sl
  refine ⟨O, h1, h2, fun i x hx => ?_⟩
  have hx : (ss ++ List.replicate k Sl.none)[i]? = some x := hx
  show SlOk g F H (O i) ((vs.map some ++ List.replicate k none)[i]?.join) x
  by_cases hi : i < ss.length
  · rw [List.getElem?_append_left hi] at hx
    rw [List.getElem?_append_left (by rw [hl]; exact hi)]
    exact h3 i x hx
  · rw [List.getElem?_append_right (by omega)] at hx
    have := List.getElem?_eq_some_iff.mp hx
    obtain ⟨q1, q2⟩ := this
    rw [List.getElem_replicate] at q2
    rw [← q2]; trivial
/-- a body's meaning is the def's promise -/
theorem fn_body {P : Program} {w : World} {mg : Str → Option Value} {base : Heap} {x qual : Str} {st : Stmt} {f : Addr} {fd : FuncData} {N ps : List Str} {k n : Nat} {b : AS} (F : Fun g.K x qual st f fd) (S0 : FnScope N ps (defScope st)) (hn : ps.length = n)
    (h : ∀ (cdv : Value) (A : Around) (outer : List Env) (s : Shared) (H : Hp) (E : XK), Room k (A.deeper (envOfC qual (defScope st) s.heap.objs.size f cdv)) →
      ∃ t, PSs (cxOf (L2.CX P w) P w g.K mg base N qual (defScope st) f cdv A outer s H E) (defBody st) t ∧ SS g (fun _ => E) t b) : FnOk P w g.K mg base (L2.CX P w) (k + 1) f fd ps (spG g n (runF n N.length b)) := by
  refine F.okX S0 (fun vs H Q E hs => hs.1.trans hn.symm) (fun cdv A outer s H vs Q E hr hs => ?_)
  obtain ⟨hl, F, W, ss, ok0, hm⟩ := hs
  obtain ⟨t, hp, hb⟩ := h cdv A outer s H E hr
  refine ⟨t, hp, ?_⟩
  have oks := fn_start (N.length - n) ok0
  have es : L2.start N vs = vs.map some ++ List.replicate (N.length - n) none := by unfold L2.start; rw [hl]
  rw [es]
  refine hb ⟨F, H, W, vs.map some ++ List.replicate (N.length - n) none, ss ++ List.replicate (N.length - n) .none⟩ _ oks ?_
  show AftS g _ _ (b (ss ++ List.replicate (N.length - n) .none)) _
  unfold runF at hm
  cases e : b (ss ++ List.replicate (N.length - n) .none) with
  | rt d ρ =>
    rw [e] at hm
    intro u eu oku gou v rv
    subst eu
    obtain ⟨o1, o2⟩ := fn_end ok0 oku gou
    exact hm v ⟨u.F, u.H, u.W, vs.map some, pinsFrom u.ρ 0 ss⟩ rfl rfl o1 o2 rv
  | nx ρ =>
    rw [e] at hm
    intro u eu oku gou
    subst eu
    obtain ⟨o1, o2⟩ := fn_end ok0 oku gou
    exact hm .non ⟨u.F, u.H, u.W, vs.map some, pinsFrom u.ρ 0 ss⟩ rfl rfl o1 o2 .non
  | exc x ρ =>
    rw [e] at hm
    intro u eu oku gou
    subst eu
    obtain ⟨o1, o2⟩ := fn_end ok0 oku gou
    exact hm ⟨u.F, u.H, u.W, vs.map some, pinsFrom u.ρ 0 ss⟩ rfl rfl o1 o2
  | bk ρ => rw [e] at hm; exact hm.elim
  | ct ρ => rw [e] at hm; exact hm.elim
  | bad => rw [e] at hm; exact hm.elim
end
end DL

namespace DL
open PySem PySem.Spec PyProof.Rows L2
section
variable {g : G} {E : EX}
/-! ### calls of the text's own defs; an argument is data or a pinned name -/
abbrev Arg := PyData ⊕ Nat
def ArgOk (g : G) (t : S) (v : V) : Arg → Prop
  | .inl d => Rep g.K t.F v d
  | .inr i => t.σ[i]? = some (some v) ∧ ∃ m, t.ρ[i]? = some (Sl.pin m)
inductive ArgL (g : G) (t : S) : List V → List Arg → Prop
  | nil : ArgL g t [] []
  | cons {v : V} {x : Arg} {vs : List V} {xs : List Arg} (h : ArgOk g t v x) (r : ArgL g t vs xs) : ArgL g t (v :: vs) (x :: xs)
theorem ArgOk.mono {s t : S} {v : V} (go : Go s t) : ∀ {x : Arg}, ArgOk g s v x → ArgOk g t v x
  | .inl d, h => Rep.mono go.f h
  | .inr i, ⟨h1, m, h2⟩ => by
    obtain ⟨q1, q2⟩ := go.pk i m h2
    exact ⟨q1.trans h1, q2⟩
theorem ArgL.get {t : S} : ∀ {vs : List V} {xs : List Arg}, ArgL g t vs xs → ∀ {k : Nat} {x : Arg}, xs[k]? = some x → ∃ v, vs[k]? = some v ∧ ArgOk g t v x
  | _, _, .nil, k, x, h => by simp at h
  | _, _, .cons h r, 0, x, e => by simp at e; subst e; exact ⟨_, rfl, h⟩
  | _, _, .cons h r, k + 1, x, e => by
    obtain ⟨v, h1, h2⟩ := r.get (k := k) (x := x) (by simpa using e)
    exact ⟨v, by simpa using h1, h2⟩
theorem ArgL.length {t : S} : ∀ {vs : List V} {xs : List Arg}, ArgL g t vs xs → vs.length = xs.length
  | _, _, .nil => rfl
  | _, _, .cons h r => congrArg (· + 1) r.length
def SA (g : G) (E : EX) (ta : TA) (a : AA) : Prop := ∀ (s : S) (Q : List V → Hp → Prop), s.Ok g → Aft g E s (a s.ρ) (fun xs t => ∀ vs, ArgL g t vs xs → Q vs t.H) → ta s.σ s.H Q
def aaNil : AA := fun ρ => .ok [] ρ
def aaCons (a : AE) (b : AA) : AA := fun ρ => (a ρ).bind fun d ρ1 => (b ρ1).bind fun xs ρ2 => .ok (.inl d :: xs) ρ2
def aaPin (i : Nat) (b : AA) : AA := fun ρ => if isPin (sl ρ i) = true then (b ρ).bind fun xs ρ2 => .ok (.inr i :: xs) ρ2 else .bad
theorem sa_nil : SA g E tNil aaNil := fun s Q ok h => Aft.here (s := s) ok h _ .nil
theorem sa_cons {te : TE} {ta : TA} {a : AE} {b : AA} (ha : SE g E te a) (hb : SA g E ta b) : SA g E (tCons te ta) (aaCons a b) := fun s Q ok h =>
  ha s _ ok ((Aft.bind h).mono fun d F1 H1 W1 ρ1 ok1 go1 h1 v rv =>
    hb ⟨F1, H1, W1, s.σ, ρ1⟩ _ ok1 ((Aft.bind h1).mono fun ds F2 H2 W2 ρ2 ok2 go2 h2 vs rs =>
      Aft.here (s := ⟨F2, H2, W2, s.σ, ρ2⟩) ok2 h2 _ (.cons (Rep.mono go2.f rv) rs)))
theorem isPin_of {x : Sl} (h : isPin x = true) : ∃ m, x = .pin m := by
  cases x with
  | pin m => exact ⟨m, rfl⟩
  | _ => cases h
theorem sa_pin {i : Nat} {ta : TA} {b : AA} (hb : SA g E ta b) : SA g E (tCons (tVar i) ta) (aaPin i b) := fun s Q ok h => by
  unfold aaPin at h
  split at h
  · rename_i c
    obtain ⟨m, e⟩ := isPin_of c
    obtain ⟨v, hv, _⟩ := pin_at ok e
    refine ⟨v, hv, hb s _ ok ((Aft.bind h).mono fun ds F2 H2 W2 ρ2 ok2 go2 h2 vs rs =>
      Aft.here (s := ⟨F2, H2, W2, s.σ, ρ2⟩) ok2 h2 _ (.cons ?_ rs))⟩
    exact ⟨hv, (go2.pk i m (sl_get e fun q => nomatch q)).2⟩
  · exact h.elim
def pinsOk : List Nat → List Arg → Bool
  | _, [] => true
  | seen, .inl _ :: r => pinsOk seen r
  | seen, .inr i :: r => !(seen.contains i) && pinsOk (i :: seen) r
theorem pinsOk_seen : ∀ {seen : List Nat} {xs : List Arg}, pinsOk seen xs = true → ∀ {k i : Nat}, xs[k]? = some (.inr i) → i ∉ seen
  | seen, [], _, k, i, h => by simp at h
  | seen, .inl d :: r, c, 0, i, h => by simp at h
  | seen, .inl d :: r, c, k + 1, i, h => pinsOk_seen (xs := r) c (by simpa using h)
  | seen, .inr j :: r, c, k, i, h => by
    have c : (!(seen.contains j) && pinsOk (j :: seen) r) = true := c
    rw [Bool.and_eq_true, Bool.not_eq_true'] at c
    cases k with
    | zero =>
      have e : j = i := by simpa using h
      subst e
      exact fun q => by
        have := List.contains_iff_mem.mpr q
        rw [c.1] at this; cases this
    | succ k => exact fun q => pinsOk_seen c.2 (k := k) (i := i) (by simpa using h) (List.mem_cons_of_mem _ q)
theorem pinsOk_inj : ∀ {seen : List Nat} {xs : List Arg}, pinsOk seen xs = true → ∀ {k k' i : Nat}, xs[k]? = some (.inr i) → xs[k']? = some (.inr i) → k = k'
  | seen, [], _, k, k', i, h, _ => by simp at h
  | seen, .inl d :: r, c, 0, k', i, h, _ => by simp at h
  | seen, .inl d :: r, c, k + 1, 0, i, _, h => by simp at h
  | seen, .inl d :: r, c, k + 1, k' + 1, i, h, h' => congrArg (· + 1) (pinsOk_inj (xs := r) c (by simpa using h) (by simpa using h'))
  | seen, .inr j :: r, c, k, k', i, h, h' => by
    have c : (!(seen.contains j) && pinsOk (j :: seen) r) = true := c
    rw [Bool.and_eq_true] at c
    cases k with
    | zero =>
      have e : j = i := by simpa using h
      subst e
      cases k' with
      | zero => rfl
      | succ k' => exact absurd List.mem_cons_self (pinsOk_seen c.2 (k := k') (i := j) (by simpa using h'))
    | succ k =>
      cases k' with
      | zero =>
        have e : j = i := by simpa using h'
        subst e
        exact absurd List.mem_cons_self (pinsOk_seen c.2 (k := k) (i := j) (by simpa using h))
      | succ k' => exact congrArg (· + 1) (pinsOk_inj c.2 (by simpa using h) (by simpa using h'))
def argS (ρ : List Sl) : Arg → Sl
  | .inl d => .dat d
  | .inr i => sl ρ i
def putPins : List Arg → List Sl → List Sl → List Sl
  | .inr i :: xs, x :: ss, ρ => putPins xs ss (ρ.set i x)
  | .inl _ :: xs, _ :: ss, ρ => putPins xs ss ρ
  | _, _, ρ => ρ
theorem putPins_len : ∀ (xs : List Arg) (ss ρ : List Sl), (putPins xs ss ρ).length = ρ.length
  | .inr i :: xs, x :: ss, ρ => by
    show (putPins xs ss (ρ.set i x)).length = _
    rw [putPins_len xs ss, List.length_set]
  | .inl _ :: xs, _ :: ss, ρ => putPins_len xs ss ρ
  | [], _, ρ => by cases ‹List Sl› <;> rfl
  | .inr _ :: _, [], ρ => rfl
  | .inl _ :: _, [], ρ => rfl
theorem putPins_off : ∀ (xs : List Arg) (ss ρ : List Sl) (j : Nat), (∀ (k : Nat), xs[k]? ≠ some (Sum.inr j)) → (putPins xs ss ρ)[j]? = ρ[j]?
  | .inr i :: xs, x :: ss, ρ, j, h => by
    show (putPins xs ss (ρ.set i x))[j]? = _
    have hij : i ≠ j := fun e => h 0 (by rw [e]; rfl)
    rw [putPins_off xs ss _ j fun k q => h (k + 1) (by simpa using q), List.getElem?_set_ne hij]
  | .inl _ :: xs, _ :: ss, ρ, j, h => putPins_off xs ss ρ j fun k q => h (k + 1) (by simpa using q)
  | [], _, ρ, j, h => by cases ‹List Sl› <;> rfl
  | .inr _ :: _, [], ρ, j, h => rfl
  | .inl _ :: _, [], ρ, j, h => rfl
theorem putPins_at : ∀ (xs : List Arg) (ss ρ : List Sl) (k i : Nat) (x : Sl) (seen : List Nat), pinsOk seen xs = true → xs[k]? = some (.inr i) → ss[k]? = some x → i < ρ.length → (putPins xs ss ρ)[i]? = some x
  | [], ss, ρ, k, i, x, seen, c, h, hs, hi => by simp at h
  | .inl _ :: xs, [], ρ, k, i, x, seen, c, h, hs, hi => by simp at hs
  | .inr _ :: xs, [], ρ, k, i, x, seen, c, h, hs, hi => by simp at hs
  | .inl _ :: xs, y :: ss, ρ, 0, i, x, seen, c, h, hs, hi => by simp at h
  | .inl _ :: xs, y :: ss, ρ, k + 1, i, x, seen, c, h, hs, hi => putPins_at xs ss ρ k i x seen c (by simpa using h) (by simpa using hs) hi
  | .inr j :: xs, y :: ss, ρ, k, i, x, seen, c, h, hs, hi => by
    have c : (!(seen.contains j) && pinsOk (j :: seen) xs) = true := c
    rw [Bool.and_eq_true] at c
    show (putPins xs ss (ρ.set j y))[i]? = some x
    cases k with
    | zero =>
      have e : j = i := by simpa using h
      subst e
      have e2 : y = x := by simpa using hs
      subst e2
      rw [putPins_off xs ss _ j fun k q => pinsOk_seen c.2 q List.mem_cons_self, List.getElem?_set_self hi]
    | succ k => exact putPins_at xs ss _ k i x (j :: seen) c.2 (by simpa using h) (by simpa using hs) (by rw [List.length_set]; exact hi)
def callRes (f : Fn) (xs : List Arg) (ρ : List Sl) : Res PyData := if pinsOk [] xs = true then (match f (xs.map (argS ρ)) with
  | .ok d ss => .ok d (putPins xs ss ρ)
  | .exc e ss => .exc e (putPins xs ss ρ)
  | .bad => .bad) else .bad
def aCall (f : Fn) (a : AA) : AE := fun ρ => (a ρ).bind fun xs ρ1 => callRes f xs ρ1
/-- what a call's arguments are to the def -/
theorem call_start {t : S} {vs : List V} {xs : List Arg} (ok : t.Ok g) (ha : ArgL g t vs xs) (hp : pinsOk [] xs = true) :
    ∃ W, (S.mk t.F t.H W (vs.map some) (xs.map (argS t.ρ))).Ok g ∧ ∀ (u : S), u.σ = vs.map some → u.Ok g → Go ⟨t.F, t.H, W, vs.map some, xs.map (argS t.ρ)⟩ u →
      ∃ W', (S.mk u.F u.H W' t.σ (putPins xs u.ρ t.ρ)).Ok g ∧ Go t ⟨u.F, u.H, W', t.σ, putPins xs u.ρ t.ρ⟩ := by
  obtain ⟨O, h1, h2, h3⟩ := ok.sl
  have hl := ha.length
  refine ⟨fun a => ∃ (k i : Nat), xs[k]? = some (Sum.inr i) ∧ O i a, ⟨ok.ex, fun a hw => ?_, by show (vs.map some).length = (xs.map (argS t.ρ)).length; rw [List.length_map, List.length_map]; exact hl,
    fun k a => ∃ i, xs[k]? = some (Sum.inr i) ∧ O i a, fun k a ⟨i, q1, q2⟩ => ⟨k, i, q1, q2⟩, fun k k' a ⟨i, q1, q2⟩ ⟨i', q3, q4⟩ => ?_, fun k x hx => ?_⟩, fun u eu oku go => ?_⟩
  · obtain ⟨k, i, _, q⟩ := hw
    exact ok.fw a (h1 i a q)
  · have e := h2 i i' a q2 q4
    subst e
    exact pinsOk_inj hp q1 q3
  · have hx : (xs.map (argS t.ρ))[k]? = some x := hx
    rw [List.getElem?_map] at hx
    obtain ⟨y, hy, rfl⟩ := Option.map_eq_some_iff.mp hx
    obtain ⟨v, hv, ho⟩ := ha.get hy
    show SlOk g t.F t.H (fun a => ∃ i, xs[k]? = some (Sum.inr i) ∧ O i a) ((vs.map some)[k]?.join) (argS t.ρ y)
    rw [List.getElem?_map, hv]
    cases y with
    | inl d => exact ⟨v, rfl, ho⟩
    | inr i =>
      obtain ⟨q1, m, q2⟩ := ho
      have := h3 i _ q2
      rw [q1] at this
      show SlOk g t.F t.H _ (some v) (sl t.ρ i)
      rw [sl_of q2]
      exact SlOk.keep (.refl _) (fun _ _ _ => rfl) (fun a q => ⟨i, hy, q⟩) this
  · obtain ⟨O', o1, o2, o3⟩ := oku.sl
    -- the slots that were handed in are the def's, the others as before
    refine ⟨fun a => (t.W a ∧ ¬ ∃ (k i : Nat), xs[k]? = some (Sum.inr i) ∧ O i a) ∨ u.W a, ⟨oku.ex, fun a hw => ?_, by show t.σ.length = (putPins xs u.ρ t.ρ).length; rw [putPins_len]; exact ok.len,
      fun i a => (∃ (k : Nat), xs[k]? = some (Sum.inr i) ∧ O' k a) ∨ ((¬ ∃ (k : Nat), xs[k]? = some (Sum.inr i)) ∧ O i a), fun i a hw => ?_, fun i j a hi hj => ?_, fun i x hx => ?_⟩, ⟨go.f, fun a o ha' hw => ?_, fun a q1 q2 q3 => ?_, fun a hw => ?_, fun i m hi => ⟨rfl, ?_⟩⟩⟩
    · rcases hw with ⟨hw, hn⟩ | hw
      · obtain ⟨q1, q2⟩ := ok.fw a hw
        refine ⟨go.fr a q2 q1 hn, ?_⟩
        cases e : t.H a with
        | none => exact absurd e q2
        | some o => show u.H a ≠ none; rw [go.keep a o e hn]; exact fun q => nomatch q
      · exact oku.fw a hw
    · rcases hw with ⟨k, q1, q2⟩ | ⟨q1, q2⟩
      · exact .inr (o1 k a q2)
      · exact .inl ⟨h1 i a q2, fun ⟨k, j, q3, q4⟩ => q1 ⟨k, by rw [h2 i j a q2 q4]; exact q3⟩⟩
    · have old : ∀ {i a}, O i a → u.W a → (∃ (k j : Nat), xs[k]? = some (Sum.inr j) ∧ O j a) := fun {i a} q1 q2 => by
        rcases go.own a q2 with z | z
        · exact z
        · exact absurd z (ok.fw a (h1 i a q1)).2
      rcases hi with ⟨k, q1, q2⟩ | ⟨q1, q2⟩ <;> rcases hj with ⟨k', q3, q4⟩ | ⟨q3, q4⟩
      · have e := o2 k k' a q2 q4
        subst e
        rw [q1] at q3
        have e : some (Sum.inr i : Arg) = some (Sum.inr j) := q3
        cases e; rfl
      · obtain ⟨k2, j2, z1, z2⟩ := old q4 (o1 k a q2)
        exact absurd ⟨k2, by rw [h2 j j2 a q4 z2]; exact z1⟩ q3
      · obtain ⟨k2, j2, z1, z2⟩ := old q2 (o1 k' a q4)
        exact absurd ⟨k2, by rw [h2 i j2 a q2 z2]; exact z1⟩ q1
      · exact h2 i j a q2 q4
    · have hx : (putPins xs u.ρ t.ρ)[i]? = some x := hx
      show SlOk g u.F u.H (fun a => (∃ (k : Nat), xs[k]? = some (Sum.inr i) ∧ O' k a) ∨ ((¬ ∃ (k : Nat), xs[k]? = some (Sum.inr i)) ∧ O i a)) (t.σ[i]?.join) x
      by_cases c : ∃ (k : Nat), xs[k]? = some (Sum.inr i)
      · obtain ⟨k, hk⟩ := c
        obtain ⟨v, hv, q1, m, q2⟩ := ha.get hk
        have hkl : k < u.ρ.length := by
          rw [← oku.len, eu, List.length_map, hl]; exact some_lt hk
        have e := putPins_at xs u.ρ t.ρ k i _ [] hp hk (List.getElem?_eq_getElem hkl) (some_lt q2)
        rw [e] at hx
        cases hx
        have := o3 k _ (List.getElem?_eq_getElem hkl)
        rw [eu, List.getElem?_map, hv] at this
        rw [q1]
        exact SlOk.keep (.refl _) (fun _ _ _ => rfl) (fun a q => .inl ⟨k, hk, q⟩) this
      · rw [putPins_off xs u.ρ t.ρ i fun k q => c ⟨k, q⟩] at hx
        refine (h3 i x hx).keep go.f (fun a q hne => ?_) fun a q => .inr ⟨c, q⟩
        cases e : t.H a with
        | none => exact absurd e hne
        | some o => exact go.keep a o e fun ⟨k, j, z1, z2⟩ => c ⟨k, by rw [h2 i j a q z2]; exact z1⟩
    · exact go.keep a o ha' fun ⟨k, i, _, q⟩ => hw (h1 i a q)
    · exact go.fr a q1 q2 fun ⟨k, i, _, q⟩ => q3 (h1 i a q)
    · rcases hw with ⟨hw, _⟩ | hw
      · exact .inl hw
      · rcases go.own a hw with ⟨k, i, _, z⟩ | z
        · exact .inl (h1 i a z)
        · exact .inr z
    · show ∃ m', (putPins xs u.ρ t.ρ)[i]? = some (.pin m')
      by_cases c : ∃ (k : Nat), xs[k]? = some (Sum.inr i)
      · obtain ⟨k, hk⟩ := c
        have hkl : k < u.ρ.length := by
          rw [← oku.len, eu, List.length_map, hl]; exact some_lt hk
        obtain ⟨_, m', q⟩ := go.pk k m (by
          show (xs.map (argS t.ρ))[k]? = _
          rw [List.getElem?_map, hk]
          show some (sl t.ρ i) = _
          rw [sl_of hi])
        exact ⟨m', putPins_at xs u.ρ t.ρ k i _ [] hp hk q (some_lt hi)⟩
      · exact ⟨m, by rw [putPins_off xs u.ρ t.ρ i fun k q => c ⟨k, q⟩]; exact hi⟩
theorem se_call {n : Nat} {f : Fn} {ta : TA} {a : AA} (ha : SA g E ta a) (hn : ∀ s : S, ∀ xs ρ, a s.ρ = .ok xs ρ → xs.length = n) : SE g E (tCallS (spG g n f) E ta) (aCall f a) := fun s Q ok h => by
  cases e : a s.ρ with
  | bad => unfold aCall at h; rw [e] at h; exact h.elim
  | exc x ρ => 
    refine ha s _ ok ?_
    unfold aCall at h
    rw [e] at h ⊢
    exact h
  | ok xs ρ =>
    have hlen := hn s xs ρ e
    refine ha s _ ok ?_
    unfold aCall at h
    rw [e] at h ⊢
    intro F H W ok1 go1 vs hv
    have h1 : Aft g E ⟨F, H, W, s.σ, ρ⟩ (callRes f xs ρ) (fun d t => ∀ v, Rep g.K t.F v d → Q v t.H) := by
      have h : Aft g E s (callRes f xs ρ) (fun d t => ∀ v, Rep g.K t.F v d → Q v t.H) := h
      revert h
      cases callRes f xs ρ with
      | ok d ρ' => exact fun h F' H' W' ok' go' => h F' H' W' ok' (go1.trans go')
      | exc x ρ' => exact fun h F' H' W' ok' go' => h F' H' W' ok' (go1.trans go')
      | bad => exact fun h => h
    unfold callRes at h1
    split at h1
    · rename_i hp
      obtain ⟨Wc, okc, back⟩ := call_start (t := ⟨F, H, W, s.σ, ρ⟩) ok1 hv hp
      refine ⟨by rw [hv.length]; exact hlen, F, Wc, _, okc, ?_⟩
      show (match f (xs.map (argS ρ)) with | .ok d ss' => _ | .exc e ss' => _ | .bad => _)
      cases ef : f (xs.map (argS ρ)) with
      | ok d ss =>
        rw [ef] at h1
        intro v t et er okt got rv
        subst er
        obtain ⟨W', o1, o2⟩ := back t et okt (by
          exact got)
        exact h1 t.F t.H W' o1 o2 v rv
      | exc x ss =>
        rw [ef] at h1
        intro t et er okt got
        subst er
        obtain ⟨W', o1, o2⟩ := back t et okt got
        exact h1 t.F t.H W' o1 o2
      | bad => rw [ef] at h1; exact h1.elim
    · exact h1.elim
end
end DL

namespace DL
open PySem PySem.Spec PyProof.Rows L2

/-! ### operators of any operands -/
theorem op_addAny {X : Cx} : OpR X (binaryOp .Add) (rAddAny X.K) := fun pins s σ H x y v u Q I rx ry h => by
  rcases h with h | h | h | h
  · exact op_add pins s σ H x y v u Q I rx ry h
  · exact op_add_str pins s σ H x y v u Q I rx ry h
  · exact op_cat pins s σ H x y v u Q I rx ry h
  · exact op_catA pins s σ H x y v u Q I rx ry h
theorem op_mulAny {X : Cx} : OpR X (binaryOp .Mult) rMulAny := fun pins s σ H x y v u Q I rx ry h => by
  rcases h with h | h
  · exact op_mul pins s σ H x y v u Q I rx ry h
  · exact op_rep pins s σ H x y v u Q I rx ry h
theorem sl_any {X : Cx} : SlR X (rSlAny X.K) := fun pins s σ H x v vl vu lo hi sl Q I rx hs pl pu h => by
  rcases h with h | h | h
  · exact sl_list pins s σ H x v vl vu lo hi sl Q I rx hs pl pu h
  · exact sl_tupA pins s σ H x v vl vu lo hi sl Q I rx hs pl pu h
  · exact sl_str pins s σ H x v vl vu lo hi sl Q I rx hs pl pu h

theorem bb_abs : bootBuiltins "abs" = some (.builtin "abs") := by decide +kernel
theorem bb_max : bootBuiltins "max" = some (.builtin "max") := by decide +kernel
theorem bb_min : bootBuiltins "min" = some (.builtin "min") := by decide +kernel
theorem bb_sum : bootBuiltins "sum" = some (.builtin "sum") := by decide +kernel
theorem bb_all : bootBuiltins "all" = some (.builtin "all") := by decide +kernel
theorem bb_sorted : bootBuiltins "sorted" = some (.builtin "sorted") := by decide +kernel
theorem bb_tuple : bootBuiltins "tuple" = some (.type "tuple") := by decide +kernel
theorem bb_list : bootBuiltins "list" = some (.type "list") := by decide +kernel
theorem bb_int : bootBuiltins "int" = some (.type "int") := by decide +kernel
theorem bb_bool : bootBuiltins "bool" = some (.type "bool") := by decide +kernel
theorem bb_str : bootBuiltins "str" = some (.type "str") := by decide +kernel
structure PD (X : Cx) (g : G) (E : EX) (e : Expr) (te : TE) (a : AE) : Prop where
  pe : PE X e te
  se : SE (g.at X.K) E te a
structure PTD (X : Cx) (g : G) (E : EX) (e : Expr) (tt : TT) (a : AT) : Prop where
  pt : PT X e tt
  st : ST (g.at X.K) E tt a
structure PWD (X : Cx) (g : G) (E : EX) (e : Expr) (tt : TT) (a : AT) : Prop where
  pw : PW X e tt
  st : ST (g.at X.K) E tt a
structure PDD (X : Cx) (g : G) (E : EX) (es : List Expr) (ta : TA) (a : AD) : Prop where
  pa : PA X es ta
  sd : SD (g.at X.K) E ta a
structure PAD (X : Cx) (g : G) (E : EX) (es : List Expr) (ta : TA) (a : AA) (n : Nat) : Prop where
  pa : PA X es ta
  sa : SA (g.at X.K) E ta a
  len : ∀ ρ xs ρ', a ρ = .ok xs ρ' → xs.length = n
structure POD (X : Cx) (g : G) (E : EX) (e : Option Expr) (to : TO) (a : AO) : Prop where
  po : PO X e to
  so : SO (g.at X.K) E to a
structure PID (X : Cx) (g : G) (E : EX) (tg iter : Expr) (wi : TI) (a : AI) : Prop where
  pi : PI X tg iter wi
  si : SI (g.at X.K) E wi a
structure PGD (X : Cx) (g : G) (tg : Expr) (t : TG) (a : AG) (ts : List Nat) : Prop where
  pg : PG X tg t
  sg : SG (g.at X.K) t a ts
structure PGsD (X : Cx) (g : G) (tg : List Expr) (t : TGs) (a : AGs) (ts : List Nat) : Prop where
  pg : PGs X tg t
  sg : SGs (g.at X.K) t a ts
structure PSD (X : Cx) (g : G) (E : EX) (st : Stmt) (t : TS) (a : AS) : Prop where
  ps : PS X st t
  ss : SS (g.at X.K) E t a
structure PSsD (X : Cx) (g : G) (E : EX) (st : List Stmt) (t : TS) (a : AS) : Prop where
  ps : PSs X st t
  ss : SS (g.at X.K) E t a
section
variable {X : Cx} {g : G} {E : EX} {K : Fr}
section
variable {a b c : Expr} {ta tb tc : TE} {α β γ : AE} {pos : Pos}
/-! expressions -/
theorem pd_var (i : Nat) {x : Str} (hN : X.N[i]? = some x := by rfl) (hv : Vis X.env.scope x := by first | exact Or.inl rfl | exact Or.inr (Or.inl rfl) | exact Or.inr (Or.inr rfl)) (hd : (x == ("__debug__" : Str)) = false := by decide)
    (hcd : (x == ("__classdict__" : Str)) = false := by decide) : PD X g E (.Name x pos) (tVar i) (aVar i) := ⟨pv i hN hv hd hcd, se_var i⟩
theorem pd_int {i : Int} {j} : PD X g E (.Constant (.int i) j pos) (tC (.int i)) (aC (.int i)) := ⟨pe_int, se_int i⟩
theorem pd_bl {b : Bool} {j} : PD X g E (.Constant (.bool b) j pos) (tC (.bl b)) (aC (.bool b)) := ⟨pe_bl, se_bl b⟩
theorem pd_non {j} : PD X g E (.Constant .none j pos) (tC .non) (aC .none) := ⟨pe_non, se_non⟩
theorem pd_str {x : Str} {j} : PD X g E (.Constant (.str x) j pos) (tC (.str x)) (aC (.str x)) := ⟨pe_str, se_str x⟩
/-- a module's whole number -/
theorem pd_glob {x : Str} {i : Int} (hm : ∃ u, X.mg x = some (.int i u)) (hg : Gl X x := by rfl) (hd : (x == ("__debug__" : Str)) = false := by decide) : PD X g E (.Name x pos) (tC (.int i)) (aC (.int i)) := by
  obtain ⟨u, hm⟩ := hm
  exact ⟨pe_glob hg hm ⟨u, rfl⟩ hd, se_int i⟩
theorem pd_globS {x : Str} {i : Str} (hm : ∃ u, X.mg x = some (.str i u)) (hg : Gl X x := by rfl) (hd : (x == ("__debug__" : Str)) = false := by decide) : PD X g E (.Name x pos) (tC (.str i)) (aC (.str i)) := by
  obtain ⟨u, hm⟩ := hm
  exact ⟨pe_glob hg hm ⟨u, rfl⟩ hd, se_str i⟩
theorem pd_add (ha : PD X g E a ta α) (hb : PD X g E b tb β) (hK : X.K = K := by rfl) : PD X g E (.BinOp a .Add b pos) (tOp (rAddAny K) ta tb) (aBin oAdd α β) := by
  subst hK
  exact ⟨pe_op op_addAny ha.pe hb.pe, se_bin (g := g.at X.K) rs_add ha.se hb.se⟩
theorem pd_sub (ha : PD X g E a ta α) (hb : PD X g E b tb β) : PD X g E (.BinOp a .Sub b pos) (tOp (rI0 fun i j => .int (i - j)) ta tb) (aBin oSub α β) := ⟨pe_op op_sub ha.pe hb.pe, se_bin rs_sub ha.se hb.se⟩
theorem pd_mul (ha : PD X g E a ta α) (hb : PD X g E b tb β) : PD X g E (.BinOp a .Mult b pos) (tOp rMulAny ta tb) (aBin oMul α β) := ⟨pe_op op_mulAny ha.pe hb.pe, se_bin rs_mul ha.se hb.se⟩
theorem pd_fdiv (ha : PD X g E a ta α) (hb : PD X g E b tb β) : PD X g E (.BinOp a .FloorDiv b pos) (tOp (rI CDivN fun i j => .int (i.fdiv j)) ta tb) (aBin oFdiv α β) := ⟨pe_op op_fdivN ha.pe hb.pe, se_bin rs_fdiv ha.se hb.se⟩
theorem pd_mod (ha : PD X g E a ta α) (hb : PD X g E b tb β) : PD X g E (.BinOp a .Mod b pos) (tOp (rI (fun _ j => j ≠ 0) fun i j => .int (i.fmod j)) ta tb) (aBin oMod α β) := ⟨pe_op op_modN ha.pe hb.pe, se_bin rs_mod ha.se hb.se⟩
theorem pd_pow (ha : PD X g E a ta α) (hb : PD X g E b tb β) : PD X g E (.BinOp a .Pow b pos) (tOp (rI CPow fun i j => .int (i ^ j.toNat)) ta tb) (aBin oPow α β) := ⟨pe_op op_pow ha.pe hb.pe, se_bin rs_pow ha.se hb.se⟩
/-- -3, -NAME of a written number -/
def aNeg (a : AE) : AE := fun ρ => (a ρ).bind fun d ρ1 => match d with | .int i => .ok (.int (-i)) ρ1 | _ => .bad
theorem se_neg {te : TE} {a : AE} {g : G} {E : EX} (ha : SE g E te a) : SE g E (tUn (rU fun i => .int (-i)) te) (aNeg a) := fun s Q ok h =>
  ha s _ ok ((Aft.bind h).mono fun d F1 H1 W1 ρ1 ok1 go1 h1 v rv => by
    cases d with
    | int i => cases rv; exact ⟨i, rfl, Aft.here (s := ⟨F1, H1, W1, s.σ, ρ1⟩) ok1 h1 _ (.int _)⟩
    | _ => exact h1.elim)
theorem pd_neg (ha : PD X g E a ta α) : PD X g E (.UnaryOp .USub a pos) (tUn (rU fun i => .int (-i)) ta) (aNeg α) := ⟨pe_un un_neg ha.pe, se_neg ha.se⟩
section
variable (hu : X.A.units + 64 < cLine)
theorem pd_eq (hu : X.A.units + 64 < cLine) (ha : PD X g E a ta α) (hb : PD X g E b tb β) (hK : X.K = K := by rfl) : PD X g E (.Compare a [.Eq] [b] pos) (tOp (rEqD K) ta tb) (aBin oEq α β) := by
  subst hK
  exact ⟨pe_cmpR (op_eqD hu) ha.pe hb.pe (nomark _), se_bin (g := g.at X.K) rs_eq ha.se hb.se⟩
theorem pd_ne (hu : X.A.units + 64 < cLine) (ha : PD X g E a ta α) (hb : PD X g E b tb β) (hK : X.K = K := by rfl) : PD X g E (.Compare a [.NotEq] [b] pos) (tOp (rNeD K) ta tb) (aBin oNe α β) := by
  subst hK
  exact ⟨pe_cmpR (op_neD hu) ha.pe hb.pe (nomark _), se_bin (g := g.at X.K) rs_ne ha.se hb.se⟩
end
theorem pd_lt (ha : PD X g E a ta α) (hb : PD X g E b tb β) : PD X g E (.Compare a [.Lt] [b] pos) (tOp (rI0 fun i j => .bl (decide (i < j))) ta tb) (aBin oLt α β) := ⟨pe_cmpR op_lt ha.pe hb.pe (nomark _), se_bin (rs_cmp _) ha.se hb.se⟩
theorem pd_le (ha : PD X g E a ta α) (hb : PD X g E b tb β) : PD X g E (.Compare a [.LtE] [b] pos) (tOp (rI0 fun i j => .bl (decide (i ≤ j))) ta tb) (aBin oLe α β) := ⟨pe_cmpR op_le ha.pe hb.pe (nomark _), se_bin (rs_cmp _) ha.se hb.se⟩
theorem pd_gt (ha : PD X g E a ta α) (hb : PD X g E b tb β) : PD X g E (.Compare a [.Gt] [b] pos) (tOp (rI0 fun i j => .bl (decide (j < i))) ta tb) (aBin oGt α β) := ⟨pe_cmpR op_gt ha.pe hb.pe (nomark _), se_bin (rs_cmp _) ha.se hb.se⟩
theorem pd_ge (ha : PD X g E a ta α) (hb : PD X g E b tb β) : PD X g E (.Compare a [.GtE] [b] pos) (tOp (rI0 fun i j => .bl (decide (j ≤ i))) ta tb) (aBin oGe α β) := ⟨pe_cmpR op_ge ha.pe hb.pe (nomark _), se_bin (rs_cmp _) ha.se hb.se⟩
theorem pd_isN (ha : PD X g E a ta α) (hb : PD X g E b tb β) : PD X g E (.Compare a [.Is] [b] pos) (tOp (fun x y H Q => y = .non ∧ Q (.bl (decide (x = .non))) H) ta tb) (aBin oIsN α β) := ⟨pe_cmpR op_isN ha.pe hb.pe (nomark _), se_bin rs_isN ha.se hb.se⟩
theorem pd_notN (ha : PD X g E a ta α) (hb : PD X g E b tb β) : PD X g E (.Compare a [.IsNot] [b] pos) (tOp (fun x y H Q => y = .non ∧ Q (.bl (!decide (x = .non))) H) ta tb) (aBin oNotN α β) := ⟨pe_cmpR op_notN ha.pe hb.pe (nomark _), se_bin rs_notN ha.se hb.se⟩
theorem pd_leLe (ha : PD X g E a ta α) (hb : PD X g E b tb β) (hc : PD X g E c tc γ) (hm : lastMarks [.LtE, .LtE] [b, c] = false := by with_unfolding_all rfl) :
    PD X g E (.Compare a [.LtE, .LtE] [b, c] pos) (tChain (rI0 fun i j => .bl (decide (i ≤ j))) (rI0 fun i j => .bl (decide (i ≤ j))) ta tb tc) (aChain oLe oLe α β γ) := ⟨pe_chain op_le op_le ha.pe hb.pe hc.pe hm, se_chain (rs_cmp _) (rs_cmp _) ha.se hb.se hc.se⟩
theorem pd_leLt (ha : PD X g E a ta α) (hb : PD X g E b tb β) (hc : PD X g E c tc γ) (hm : lastMarks [.LtE, .Lt] [b, c] = false := by with_unfolding_all rfl) :
    PD X g E (.Compare a [.LtE, .Lt] [b, c] pos) (tChain (rI0 fun i j => .bl (decide (i ≤ j))) (rI0 fun i j => .bl (decide (i < j))) ta tb tc) (aChain oLe oLt α β γ) := ⟨pe_chain op_le op_lt ha.pe hb.pe hc.pe hm, se_chain (rs_cmp _) (rs_cmp _) ha.se hb.se hc.se⟩
theorem pd_ix (ha : PD X g E a ta α) (hb : PD X g E b tb β) (hs : PlainIx b := by exact fun _ _ => rfl) (hK : X.K = K := by rfl) : PD X g E (.Subscript a b pos) (tOp (rIx K) ta tb) (aBin oIdx α β) := by
  subst hK
  exact ⟨pe_ix ix_seq ha.pe hb.pe hs, se_bin (g := g.at X.K) rs_idx ha.se hb.se⟩
theorem pod_none : POD X g E none tNoPart aNoPart := ⟨po_none, so_none⟩
theorem pod_some (ha : PD X g E a ta α) : POD X g E (some a) (tPart ta) (aPart α) := ⟨po_some ha.pe, so_part ha.se⟩
theorem pd_sl {lo hi : Option Expr} {tl th : TO} {l h : AO} {p2 : Pos} (ha : PD X g E a ta α) (hl : POD X g E lo tl l) (hh : POD X g E hi th h) (hK : X.K = K := by rfl) : PD X g E (.Subscript a (.Slice lo hi none p2) pos) (tSl (rSlAny K) ta tl th) (aSl α l h) := by
  subst hK
  exact ⟨pe_slice sl_any ha.pe hl.po hh.po, se_sl (g := g.at X.K) ha.se hl.so hh.so⟩
theorem pd_rev {k : Nat} {p1 p2 p3 : Pos} (ha : PD X g E a ta α) (hK : X.K = K := by rfl) : PD X g E (.Subscript a (.Slice none none (some (.UnaryOp .USub (.Constant (.int 1) k p1) p2)) p3) pos) (tRevL K ta) (aRev α) := by
  subst hK
  exact ⟨pe_revL ha.pe, se_rev (g := g.at X.K) ha.se⟩
/-! arguments -/
theorem pdd_nil : PDD X g E [] tNil aNil := ⟨pa_nil, sd_nil⟩
theorem pdd_cons {es : List Expr} {t : TA} {r : AD} (ha : PD X g E a ta α) (hr : PDD X g E es t r) (hs : starEach (a :: es) X.env = (false, eval a X.env) :: starEach es X.env := by rfl) : PDD X g E (a :: es) (tCons ta t) (aCons α r) := ⟨pa_cons ha.pe hr.pa hs, sd_cons ha.se hr.sd⟩
theorem pd_tup {es : List Expr} {t : TA} {r : AD} {x1} (h : PDD X g E es t r) : PD X g E (.Tuple es x1 pos) (tTup t) (aTup r) := ⟨pe_tup h.pa, se_tup h.sd⟩
theorem pd_lst {es : List Expr} {t : TA} {r : AD} (h : PDD X g E es t r) : PD X g E (.List es pos) (tLst t) (aLst r) := ⟨pe_lst h.pa, se_lst h.sd⟩
theorem pad_nil : PAD X g E [] tNil aaNil 0 := ⟨pa_nil, sa_nil, fun ρ xs ρ' h => by
  have h : Res.ok ([] : List Arg) ρ = .ok xs ρ' := h
  cases h; rfl⟩
theorem pad_cons {es : List Expr} {t : TA} {r : AA} {n : Nat} (ha : PD X g E a ta α) (hr : PAD X g E es t r n) (hs : starEach (a :: es) X.env = (false, eval a X.env) :: starEach es X.env := by rfl) : PAD X g E (a :: es) (tCons ta t) (aaCons α r) (n + 1) :=
  ⟨pa_cons ha.pe hr.pa hs, sa_cons ha.se hr.sa, fun ρ xs ρ' h => by
    obtain ⟨d, ρ1, _, h⟩ := bind_ok h
    obtain ⟨ys, ρ2, e, h⟩ := bind_ok h
    have h : Res.ok (Sum.inl d :: ys : List Arg) ρ2 = .ok xs ρ' := h
    cases h
    exact congrArg (· + 1) (hr.len _ _ _ e)⟩
theorem pad_pin {i : Nat} {x : Str} {p : Pos} {es : List Expr} {t : TA} {r : AA} {n : Nat} (hr : PAD X g E es t r n) (hN : X.N[i]? = some x := by rfl) (hv : Vis X.env.scope x := by first | exact Or.inl rfl | exact Or.inr (Or.inl rfl) | exact Or.inr (Or.inr rfl)) (hd : (x == ("__debug__" : Str)) = false := by decide)
    (hcd : (x == ("__classdict__" : Str)) = false := by decide) (hs : starEach (.Name x p :: es) X.env = (false, eval (.Name x p) X.env) :: starEach es X.env := by rfl) : PAD X g E (.Name x p :: es) (tCons (tVar i) t) (aaPin i r) (n + 1) :=
  ⟨pa_cons (pv i hN hv hd hcd) hr.pa hs, sa_pin hr.sa, fun ρ xs ρ' h => by
    unfold aaPin at h
    split at h
    · obtain ⟨ys, ρ2, e, h⟩ := bind_ok h
      have h : Res.ok (Sum.inr i :: ys : List Arg) ρ2 = .ok xs ρ' := h
      cases h
      exact congrArg (· + 1) (hr.len _ _ _ e)
    · cases h⟩
/-! calls of built-ins -/
theorem pd_cb {x : Str} {id : String} {r : List V → Hp → VK → Prop} {f : List PyData → Option PyData} {es : List Expr} {t : TA} {q : AD} {p : Pos} (hc : CallR X (.builtin id) r) (hr : CS (g.at X.K) r f) (hv : bootBuiltins x = some (.builtin id)) (hm : X.mg x = none) (ha : PDD X g E (a :: es) t q) (hg : Gl X x := by rfl)
    (hn : x ≠ "__name__" := by decide) (hdb : (x == ("__debug__" : Str)) = false := by decide) (he : starEach (a :: es) X.env = (false, eval a X.env) :: starEach es X.env := by rfl) (hpl : (backTo pos (starEach es X.env)).any (·.1) = false := by rfl) :
    PD X g E (.Call (.Name x p) (a :: es) [] pos) (tCB r t) (aCB f q) := ⟨pe_callB hc hg hm hv ha.pa hn hdb he hpl, se_cb hr ha.sd⟩
theorem pd_ct {x : Str} {T : String} {r : List V → Hp → VK → Prop} {f : List PyData → Option PyData} {es : List Expr} {t : TA} {q : AD} {p : Pos} (hc : CallR X (.type T) r) (hr : CS (g.at X.K) r f) (hv : bootBuiltins x = some (.type T)) (hm : X.mg x = none) (ha : PDD X g E (a :: es) t q) (hg : Gl X x := by rfl)
    (hn : x ≠ "__name__" := by decide) (hdb : (x == ("__debug__" : Str)) = false := by decide) (he : starEach (a :: es) X.env = (false, eval a X.env) :: starEach es X.env := by rfl) (hpl : (backTo pos (starEach es X.env)).any (·.1) = false := by rfl) :
    PD X g E (.Call (.Name x p) (a :: es) [] pos) (tCB r t) (aCB f q) := ⟨pe_callTy hc hg hm hv ha.pa hn hdb he hpl, se_cb hr ha.sd⟩
theorem pd_len {es : List Expr} {t : TA} {q : AD} {p : Pos} (hm : X.mg "len" = none) (ha : PDD X g E (a :: es) t q) (hg : Gl X "len" := by rfl) (he : starEach (a :: es) X.env = (false, eval a X.env) :: starEach es X.env := by rfl) (hpl : (backTo pos (starEach es X.env)).any (·.1) = false := by rfl) (hc : X.calm = true := by rfl) (hK : X.K = K := by rfl) : PD X g E (.Call (.Name "len" p) (a :: es) [] pos) (tCB (fun xs H Q => ∃ x n, xs = [x] ∧ LenV K x H n ∧ Q (.int n) H) t) (aCB oLen q) := by
  subst hK
  exact pd_cb call_len (cs_len (g := g.at X.K)) PySem.boot_len hm ha hg (by decide) (by decide) he hpl
theorem pd_sum {es : List Expr} {t : TA} {q : AD} {p : Pos} (hm : X.mg "sum" = none) (ha : PDD X g E (a :: es) t q) (hg : Gl X "sum" := by rfl) (he : starEach (a :: es) X.env = (false, eval a X.env) :: starEach es X.env := by rfl) (hpl : (backTo pos (starEach es X.env)).any (·.1) = false := by rfl) (hc : X.calm = true := by rfl) (hK : X.K = K := by rfl) : PD X g E (.Call (.Name "sum" p) (a :: es) [] pos) (tCB (rSum K) t) (aCB oSum q) := by
  subst hK
  exact pd_cb (cr_sum hc) (cs_sum (g := g.at X.K)) bb_sum hm ha hg (by decide) (by decide) he hpl
theorem pd_maxL {es : List Expr} {t : TA} {q : AD} {p : Pos} (hm : X.mg "max" = none) (ha : PDD X g E (a :: es) t q) (hg : Gl X "max" := by rfl) (he : starEach (a :: es) X.env = (false, eval a X.env) :: starEach es X.env := by rfl) (hpl : (backTo pos (starEach es X.env)).any (·.1) = false := by rfl) (hc : X.calm = true := by rfl) (hK : X.K = K := by rfl) : PD X g E (.Call (.Name "max" p) (a :: es) [] pos) (tCB (rMax K) t) (aCB oMax q) := by
  subst hK
  exact pd_cb (cr_max hc) (cs_max (g := g.at X.K)) bb_max hm ha hg (by decide) (by decide) he hpl
theorem pd_minL {es : List Expr} {t : TA} {q : AD} {p : Pos} (hm : X.mg "min" = none) (ha : PDD X g E (a :: es) t q) (hg : Gl X "min" := by rfl) (he : starEach (a :: es) X.env = (false, eval a X.env) :: starEach es X.env := by rfl) (hpl : (backTo pos (starEach es X.env)).any (·.1) = false := by rfl) (hc : X.calm = true := by rfl) (hK : X.K = K := by rfl) : PD X g E (.Call (.Name "min" p) (a :: es) [] pos) (tCB (rMin K) t) (aCB oMin q) := by
  subst hK
  exact pd_cb (cr_min hc) (cs_min (g := g.at X.K)) bb_min hm ha hg (by decide) (by decide) he hpl
theorem pd_all {es : List Expr} {t : TA} {q : AD} {p : Pos} (hm : X.mg "all" = none) (ha : PDD X g E (a :: es) t q) (hg : Gl X "all" := by rfl) (he : starEach (a :: es) X.env = (false, eval a X.env) :: starEach es X.env := by rfl) (hpl : (backTo pos (starEach es X.env)).any (·.1) = false := by rfl) (hc : X.calm = true := by rfl) (hK : X.K = K := by rfl) : PD X g E (.Call (.Name "all" p) (a :: es) [] pos) (tCB (rAll K) t) (aCB oAll q) := by
  subst hK
  exact pd_cb (cr_all hc) (cs_all (g := g.at X.K)) bb_all hm ha hg (by decide) (by decide) he hpl
theorem pd_sorted {es : List Expr} {t : TA} {q : AD} {p : Pos} (hm : X.mg "sorted" = none) (ha : PDD X g E (a :: es) t q) (hg : Gl X "sorted" := by rfl) (he : starEach (a :: es) X.env = (false, eval a X.env) :: starEach es X.env := by rfl) (hpl : (backTo pos (starEach es X.env)).any (·.1) = false := by rfl) (hc : X.calm = true := by rfl) (hK : X.K = K := by rfl) : PD X g E (.Call (.Name "sorted" p) (a :: es) [] pos) (tCB (rSortedI K) t) (aCB oSorted q) := by
  subst hK
  exact pd_cb cr_sortedI (cs_sorted (g := g.at X.K)) bb_sorted hm ha hg (by decide) (by decide) he hpl
theorem pd_tuple {es : List Expr} {t : TA} {q : AD} {p : Pos} (hm : X.mg "tuple" = none) (ha : PDD X g E (a :: es) t q) (hg : Gl X "tuple" := by rfl) (he : starEach (a :: es) X.env = (false, eval a X.env) :: starEach es X.env := by rfl) (hpl : (backTo pos (starEach es X.env)).any (·.1) = false := by rfl) (hc : X.calm = true := by rfl) (hK : X.K = K := by rfl) : PD X g E (.Call (.Name "tuple" p) (a :: es) [] pos) (tCB (fun xs H Q => ∃ p ys, xs = [.ref p] ∧ ((SqL K H p ys ∧ ∀ l, H l = none → Q (.ref l) (upd H l (.tup ys))) ∨ (SqT K H p ys ∧ Q (.ref p) H))) t) (aCB oTupleOf q) := by
  subst hK
  exact pd_ct call_tuple_of (cs_tuple (g := g.at X.K)) bb_tuple hm ha hg (by decide) (by decide) he hpl
theorem pd_list {es : List Expr} {t : TA} {q : AD} {p : Pos} (hm : X.mg "list" = none) (ha : PDD X g E (a :: es) t q) (hg : Gl X "list" := by rfl) (he : starEach (a :: es) X.env = (false, eval a X.env) :: starEach es X.env := by rfl) (hpl : (backTo pos (starEach es X.env)).any (·.1) = false := by rfl) (hc : X.calm = true := by rfl) (hK : X.K = K := by rfl) : PD X g E (.Call (.Name "list" p) (a :: es) [] pos) (tCB (fun xs H Q => ∃ p ys, xs = [.ref p] ∧ (SqL K H p ys ∨ SqT K H p ys) ∧ ∀ l, H l = none → Q (.ref l) (upd H l (.lst ys))) t) (aCB oListOf q) := by
  subst hK
  exact pd_ct call_list_of (cs_list (g := g.at X.K)) bb_list hm ha hg (by decide) (by decide) he hpl
theorem pd_abs {es : List Expr} {t : TA} {q : AD} {p : Pos} (hm : X.mg "abs" = none) (ha : PDD X g E (a :: es) t q) (hg : Gl X "abs" := by rfl) (he : starEach (a :: es) X.env = (false, eval a X.env) :: starEach es X.env := by rfl) (hpl : (backTo pos (starEach es X.env)).any (·.1) = false := by rfl) (hc : X.calm = true := by rfl) : PD X g E (.Call (.Name "abs" p) (a :: es) [] pos) (tCB (fun xs H Q => ∃ i, xs = [.int i] ∧ Q (.int (if i < 0 then -i else i)) H) t) (aCB oAbs q) :=
  pd_cb call_abs (cs_abs (g := g.at X.K)) bb_abs hm ha hg (by decide) (by decide) he hpl
theorem pd_max2 {es : List Expr} {t : TA} {q : AD} {p : Pos} (hm : X.mg "max" = none) (ha : PDD X g E (a :: es) t q) (hg : Gl X "max" := by rfl) (he : starEach (a :: es) X.env = (false, eval a X.env) :: starEach es X.env := by rfl) (hpl : (backTo pos (starEach es X.env)).any (·.1) = false := by rfl) (hc : X.calm = true := by rfl) : PD X g E (.Call (.Name "max" p) (a :: es) [] pos) (tCB (fun xs H Q => ∃ i j, xs = [.int i, .int j] ∧ Q (.int (if j > i then j else i)) H) t) (aCB oMax2 q) :=
  pd_cb (call_max2 hc) (cs_max2 (g := g.at X.K)) bb_max hm ha hg (by decide) (by decide) he hpl
theorem pd_min2 {es : List Expr} {t : TA} {q : AD} {p : Pos} (hm : X.mg "min" = none) (ha : PDD X g E (a :: es) t q) (hg : Gl X "min" := by rfl) (he : starEach (a :: es) X.env = (false, eval a X.env) :: starEach es X.env := by rfl) (hpl : (backTo pos (starEach es X.env)).any (·.1) = false := by rfl) (hc : X.calm = true := by rfl) : PD X g E (.Call (.Name "min" p) (a :: es) [] pos) (tCB (fun xs H Q => ∃ i j, xs = [.int i, .int j] ∧ Q (.int (if j < i then j else i)) H) t) (aCB oMin2 q) :=
  pd_cb (call_min2 hc) (cs_min2 (g := g.at X.K)) bb_min hm ha hg (by decide) (by decide) he hpl
theorem pd_int1 {es : List Expr} {t : TA} {q : AD} {p : Pos} (hm : X.mg "int" = none) (ha : PDD X g E (a :: es) t q) (hg : Gl X "int" := by rfl) (he : starEach (a :: es) X.env = (false, eval a X.env) :: starEach es X.env := by rfl) (hpl : (backTo pos (starEach es X.env)).any (·.1) = false := by rfl) (hc : X.calm = true := by rfl) : PD X g E (.Call (.Name "int" p) (a :: es) [] pos) (tCB (fun xs H Q => (∃ i, xs = [.int i] ∧ Q (.int i) H) ∨ ∃ k, xs = [.bl k] ∧ Q (.int (if k then 1 else 0)) H) t) (aCB oInt1 q) :=
  pd_ct call_int1 (cs_int1 (g := g.at X.K)) bb_int hm ha hg (by decide) (by decide) he hpl
theorem pd_isi {T : String} {y : Str} {p p2 : Pos} (hm : X.mg "isinstance" = none) (hmT : X.mg y = none) (hvT : bootBuiltins y = some (.type T)) (ha : PD X g E a ta α) (hg : Gl X "isinstance" := by rfl) (hgT : Gl X y := by rfl) (hnT : y ≠ "__name__" := by decide) (hdT : (y == ("__debug__" : Str)) = false := by decide)
    (hs1 : starEach [a, .Name y p2] X.env = (false, eval a X.env) :: starEach [.Name y p2] X.env := by rfl) (hs2 : starEach [.Name y p2] X.env = (false, eval (.Name y p2) X.env) :: starEach [] X.env := by rfl) (hpl : (backTo pos (starEach [.Name y p2] X.env)).any (·.1) = false := by rfl) (hK : X.K = K := by rfl) :
    PD X g E (.Call (.Name "isinstance" p) [a, .Name y p2] [] pos) (tCB (rIsi K) (tCons ta (tCons (tC (.ty T)) tNil))) (aIsi T α) := by
  subst hK
  exact ⟨pe_callB call_isi hg hm (by decide +kernel) (pa_cons ha.pe (pa_cons (pe_bltn hgT hmT hvT rfl hnT hdT) pa_nil hs2) hs1) (by decide) (by decide) hs1 hpl, se_isi (g := g.at X.K) ha.se⟩
/-! truth -/
theorem ptd_val (ha : PD X g E a ta α) (he : ∀ whole, isTrue a X.env whole = (do let v ← whole; standAt a.pos; holding [v] (truthy v)) := by intro _; rfl) : PTD X g E a (tB ta) (aTest α) := ⟨pt_val ha.pe he, st_B ha.se⟩
section
variable {tt tu : TT} {φ ψ : AT}
theorem pwd_and1 (h : PTD X g E a tt φ) : PWD X g E (.BoolOp .And [a] pos) tt φ := ⟨pw_and1 h.pt, h.st⟩
theorem pwd_or1 (h : PTD X g E a tt φ) : PWD X g E (.BoolOp .Or [a] pos) tt φ := ⟨pw_or1 h.pt, h.st⟩
theorem pwd_and {rest : List Expr} (h : PTD X g E a tt φ) (k : PWD X g E (.BoolOp .And (b :: rest) pos) tu ψ) : PWD X g E (.BoolOp .And (a :: b :: rest) pos) (tAnd tt tu) (aAnd φ ψ) := ⟨pw_and h.pt k.pw, st_and h.st k.st⟩
theorem pwd_or {rest : List Expr} (h : PTD X g E a tt φ) (k : PWD X g E (.BoolOp .Or (b :: rest) pos) tu ψ) : PWD X g E (.BoolOp .Or (a :: b :: rest) pos) (tOr tt tu) (aOr φ ψ) := ⟨pw_or h.pt k.pw, st_or h.st k.st⟩
theorem ptd_w (h : PWD X g E a tt φ) : PTD X g E a tt φ := ⟨PW.pt h.pw, h.st⟩
theorem ptd_not (h : PTD X g E a tt φ) : PTD X g E (.UnaryOp .Not a pos) (tNot tt) (aNot φ) := ⟨pt_not h.pt, st_not h.st⟩
/-- comparisons as tests -/
theorem ptd_eq (hu : X.A.units + 64 < cLine) (ha : PD X g E a ta α) (hb : PD X g E b tb β) (hK : X.K = K := by rfl) : PTD X g E (.Compare a [.Eq] [b] pos) (tTest (tOp (rEqD K) ta tb)) (aTest (aBin oEq α β)) := by
  subst hK
  exact ⟨pt_cmpR (op_eqD hu) ha.pe hb.pe (nomark _), st_test (se_bin (g := g.at X.K) rs_eq ha.se hb.se)⟩
theorem ptd_ne (hu : X.A.units + 64 < cLine) (ha : PD X g E a ta α) (hb : PD X g E b tb β) (hK : X.K = K := by rfl) : PTD X g E (.Compare a [.NotEq] [b] pos) (tTest (tOp (rNeD K) ta tb)) (aTest (aBin oNe α β)) := by
  subst hK
  exact ⟨pt_cmpR (op_neD hu) ha.pe hb.pe (nomark _), st_test (se_bin (g := g.at X.K) rs_ne ha.se hb.se)⟩
theorem ptd_lt (ha : PD X g E a ta α) (hb : PD X g E b tb β) : PTD X g E (.Compare a [.Lt] [b] pos) (tTest (tOp (rI0 fun i j => .bl (decide (i < j))) ta tb)) (aTest (aBin oLt α β)) := ⟨pt_cmpR op_lt ha.pe hb.pe (nomark _), st_test (se_bin (rs_cmp _) ha.se hb.se)⟩
theorem ptd_le (ha : PD X g E a ta α) (hb : PD X g E b tb β) : PTD X g E (.Compare a [.LtE] [b] pos) (tTest (tOp (rI0 fun i j => .bl (decide (i ≤ j))) ta tb)) (aTest (aBin oLe α β)) := ⟨pt_cmpR op_le ha.pe hb.pe (nomark _), st_test (se_bin (rs_cmp _) ha.se hb.se)⟩
theorem ptd_gt (ha : PD X g E a ta α) (hb : PD X g E b tb β) : PTD X g E (.Compare a [.Gt] [b] pos) (tTest (tOp (rI0 fun i j => .bl (decide (j < i))) ta tb)) (aTest (aBin oGt α β)) := ⟨pt_cmpR op_gt ha.pe hb.pe (nomark _), st_test (se_bin (rs_cmp _) ha.se hb.se)⟩
theorem ptd_ge (ha : PD X g E a ta α) (hb : PD X g E b tb β) : PTD X g E (.Compare a [.GtE] [b] pos) (tTest (tOp (rI0 fun i j => .bl (decide (j ≤ i))) ta tb)) (aTest (aBin oGe α β)) := ⟨pt_cmpR op_ge ha.pe hb.pe (nomark _), st_test (se_bin (rs_cmp _) ha.se hb.se)⟩
theorem ptd_isN (ha : PD X g E a ta α) (hb : PD X g E b tb β) : PTD X g E (.Compare a [.Is] [b] pos) (tTest (tOp (fun x y H Q => y = .non ∧ Q (.bl (decide (x = .non))) H) ta tb)) (aTest (aBin oIsN α β)) := ⟨pt_cmpR op_isN ha.pe hb.pe (nomark _), st_test (se_bin rs_isN ha.se hb.se)⟩
theorem ptd_notN (ha : PD X g E a ta α) (hb : PD X g E b tb β) : PTD X g E (.Compare a [.IsNot] [b] pos) (tTest (tOp (fun x y H Q => y = .non ∧ Q (.bl (!decide (x = .non))) H) ta tb)) (aTest (aBin oNotN α β)) := ⟨pt_cmpR op_notN ha.pe hb.pe (nomark _), st_test (se_bin rs_notN ha.se hb.se)⟩
theorem ptd_leLe (ha : PD X g E a ta α) (hb : PD X g E b tb β) (hc : PD X g E c tc γ) (hm : lastMarks [.LtE, .LtE] [b, c] = false := by with_unfolding_all rfl) :
    PTD X g E (.Compare a [.LtE, .LtE] [b, c] pos) (tTest (tChain (rI0 fun i j => .bl (decide (i ≤ j))) (rI0 fun i j => .bl (decide (i ≤ j))) ta tb tc)) (aTest (aChain oLe oLe α β γ)) := ⟨pt_chain op_le op_le ha.pe hb.pe hc.pe hm, st_test (se_chain (rs_cmp _) (rs_cmp _) ha.se hb.se hc.se)⟩
theorem ptd_leLt (ha : PD X g E a ta α) (hb : PD X g E b tb β) (hc : PD X g E c tc γ) (hm : lastMarks [.LtE, .Lt] [b, c] = false := by with_unfolding_all rfl) :
    PTD X g E (.Compare a [.LtE, .Lt] [b, c] pos) (tTest (tChain (rI0 fun i j => .bl (decide (i ≤ j))) (rI0 fun i j => .bl (decide (i < j))) ta tb tc)) (aTest (aChain oLe oLt α β γ)) := ⟨pt_chain op_le op_lt ha.pe hb.pe hc.pe hm, st_test (se_chain (rs_cmp _) (rs_cmp _) ha.se hb.se hc.se)⟩
theorem pd_if (hc : PTD X g E c tt φ) (ha : PD X g E a ta α) (hb : PD X g E b tb β) : PD X g E (.IfExp c a b pos) (tIf tt ta tb) (aIf φ α β) := ⟨pe_ifExp hc.pt ha.pe hb.pe, se_if hc.st ha.se hb.se⟩
end
theorem pd_one {op} (ha : PD X g E a ta α) : PD X g E (.BoolOp op [a] pos) ta α := ⟨pe_one ha.pe, ha.se⟩
theorem pd_and {rest : List Expr} (ha : PD X g E a ta α) (hb : PD X g E (.BoolOp .And (b :: rest) pos) tb β) : PD X g E (.BoolOp .And (a :: b :: rest) pos) (tAndV ta tb) (aAndV α β) := ⟨pe_and ha.pe hb.pe, se_andV ha.se hb.se⟩
theorem pd_or {rest : List Expr} (ha : PD X g E a ta α) (hb : PD X g E (.BoolOp .Or (b :: rest) pos) tb β) : PD X g E (.BoolOp .Or (a :: b :: rest) pos) (tOrV ta tb) (aOrV α β) := ⟨pe_or ha.pe hb.pe, se_orV ha.se hb.se⟩
theorem pd_not (ha : PD X g E a ta α) : PD X g E (.UnaryOp .Not a pos) (tNotV ta) (aNotV α) := ⟨pe_not ha.pe, se_notV ha.se⟩
/-! a list that is being built; the script, the town -/
section
variable {i : Nat} {x : Str} {p : Pos} (hN : X.N[i]? = some x) (hv : Vis X.env.scope x) (hd : (x == ("__debug__" : Str)) = false) (hcd : (x == ("__classdict__" : Str)) = false)
theorem pd_oeq {i : Nat} {x : Str} {p : Pos} (hu : X.A.units + 64 < cLine) (hb : PD X g E b tb β) (hn : PE X (.Name x p) (tVar i)) (hK : X.K = K := by rfl) : PD X g E (.Compare (.Name x p) [.Eq] [b] pos) (tOp (rEqD K) (tVar i) tb) (aOBin oEq i β) := by
  subst hK
  exact ⟨pe_cmpR (op_eqD hu) hn hb.pe (nomark _), se_obin (g := g.at X.K) os_eq (fun es d => by unfold oEq; rw [if_neg]; exact fun q => by have := SeqAt.canLay_of_shaped q.1; simp [PyData.canLay0] at this) hb.se⟩
theorem pd_one_ne {i : Nat} {x : Str} {p : Pos} (hu : X.A.units + 64 < cLine) (hb : PD X g E b tb β) (hn : PE X (.Name x p) (tVar i)) (hK : X.K = K := by rfl) : PD X g E (.Compare (.Name x p) [.NotEq] [b] pos) (tOp (rNeD K) (tVar i) tb) (aOBin oNe i β) := by
  subst hK
  exact ⟨pe_cmpR (op_neD hu) hn hb.pe (nomark _), se_obin (g := g.at X.K) os_ne (fun es d => by unfold oNe; rw [if_neg]; exact fun q => by have := SeqAt.canLay_of_shaped q.1; simp [PyData.canLay0] at this) hb.se⟩
theorem ptd_oeq {i : Nat} {x : Str} {p : Pos} (hu : X.A.units + 64 < cLine) (hb : PD X g E b tb β) (hn : PE X (.Name x p) (tVar i)) (hK : X.K = K := by rfl) : PTD X g E (.Compare (.Name x p) [.Eq] [b] pos) (tTest (tOp (rEqD K) (tVar i) tb)) (aTest (aOBin oEq i β)) := by
  subst hK
  exact ⟨pt_cmpR (op_eqD hu) hn hb.pe (nomark _), st_test (pd_oeq (pos := pos) (i := i) hu hb hn).se⟩
theorem ptd_one {i : Nat} {x : Str} {p : Pos} (hu : X.A.units + 64 < cLine) (hb : PD X g E b tb β) (hn : PE X (.Name x p) (tVar i)) (hK : X.K = K := by rfl) : PTD X g E (.Compare (.Name x p) [.NotEq] [b] pos) (tTest (tOp (rNeD K) (tVar i) tb)) (aTest (aOBin oNe i β)) := by
  subst hK
  exact ⟨pt_cmpR (op_neD hu) hn hb.pe (nomark _), st_test (pd_one_ne (pos := pos) (i := i) hu hb hn).se⟩
theorem pd_oix {i : Nat} {x : Str} {p : Pos} (hb : PD X g E b tb β) (hn : PE X (.Name x p) (tVar i)) (hs : PlainIx b := by exact fun _ _ => rfl) (hK : X.K = K := by rfl) : PD X g E (.Subscript (.Name x p) b pos) (tOp (rIx K) (tVar i) tb) (aOBin oIdx i β) := by
  subst hK
  exact ⟨pe_ix ix_seq hn hb.pe hs, se_obin (g := g.at X.K) os_idx (fun es d => rfl) hb.se⟩
theorem pd_osl {i : Nat} {x : Str} {p : Pos} {lo hi : Option Expr} {tl th : TO} {l h : AO} {p2 : Pos} (hn : PE X (.Name x p) (tVar i)) (hl : POD X g E lo tl l) (hh : POD X g E hi th h) (hK : X.K = K := by rfl) : PD X g E (.Subscript (.Name x p) (.Slice lo hi none p2) pos) (tSl (rSlAny K) (tVar i) tl th) (aSlO i l h) := by
  subst hK
  exact ⟨pe_slice sl_any hn hl.po hh.po, se_slO (g := g.at X.K) hl.so hh.so⟩
theorem pe_len1 {i : Nat} {x : Str} {p q : Pos} (hm : X.mg "len" = none) (hn : PE X (.Name x p) (tVar i)) (hg : Gl X "len" := by rfl) (hs : starEach [.Name x p] X.env = (false, eval (.Name x p) X.env) :: starEach [] X.env := by rfl) (hpl : (backTo pos (starEach [] X.env)).any (·.1) = false := by rfl) (hK : X.K = K := by rfl) :
    PE X (.Call (.Name "len" q) [.Name x p] [] pos) (tCB (fun xs H Q => ∃ x n, xs = [x] ∧ LenV K x H n ∧ Q (.int n) H) (tCons (tVar i) tNil)) := by
  subst hK
  exact pe_callB call_len hg hm boot_len (pa_cons hn pa_nil hs) (by decide) (by decide) hs hpl
theorem pd_olen {i : Nat} {x : Str} {p q : Pos} (hm : X.mg "len" = none) (hn : PE X (.Name x p) (tVar i)) (hg : Gl X "len" := by rfl) (hs : starEach [.Name x p] X.env = (false, eval (.Name x p) X.env) :: starEach [] X.env := by rfl) (hpl : (backTo pos (starEach [] X.env)).any (·.1) = false := by rfl) (hK : X.K = K := by rfl) :
    PD X g E (.Call (.Name "len" q) [.Name x p] [] pos) (tCB (fun xs H Q => ∃ x n, xs = [x] ∧ LenV K x H n ∧ Q (.int n) H) (tCons (tVar i) tNil)) (aLenO i) := by
  subst hK
  exact ⟨pe_len1 (i := i) hm hn hg hs hpl, se_lenO (g := g.at X.K)⟩
theorem pd_plen {i : Nat} {x : Str} {p q : Pos} (hm : X.mg "len" = none) (hn : PE X (.Name x p) (tVar i)) (hg : Gl X "len" := by rfl) (hs : starEach [.Name x p] X.env = (false, eval (.Name x p) X.env) :: starEach [] X.env := by rfl) (hpl : (backTo pos (starEach [] X.env)).any (·.1) = false := by rfl) (hK : X.K = K := by rfl) :
    PD X g E (.Call (.Name "len" q) [.Name x p] [] pos) (tCB (fun xs H Q => ∃ x n, xs = [x] ∧ LenV K x H n ∧ Q (.int n) H) (tCons (tVar i) tNil)) (aLenP i) := by
  subst hK
  exact ⟨pe_len1 (i := i) hm hn hg hs hpl, se_lenP (g := g.at X.K)⟩
theorem pd_six {i : Nat} {x : Str} {p : Pos} (hb : PD X g E b tb β) (hn : PE X (.Name x p) (tVar i)) (hs : PlainIx b := by exact fun _ _ => rfl) (hK : X.K = K := by rfl) : PD X g E (.Subscript (.Name x p) b pos) (tOp (rIx K) (tVar i) tb) (aScr oScrIx i β) := by
  subst hK
  exact ⟨pe_ix ix_seq hn hb.pe hs, se_scrIx (g := g.at X.K) hb.se⟩
theorem ptd_seq {i : Nat} {x : Str} {p : Pos} (hu : X.A.units + 64 < cLine) (hb : PD X g E b tb β) (hn : PE X (.Name x p) (tVar i)) (hK : X.K = K := by rfl) : PTD X g E (.Compare (.Name x p) [.Eq] [b] pos) (tTest (tOp (rEqD K) (tVar i) tb)) (aTest (aScr oScrEq i β)) := by
  subst hK
  exact ⟨pt_cmpR (op_eqD hu) hn hb.pe (nomark _), st_test (se_scrEq (g := g.at X.K) hb.se)⟩
end
/-! calls of the text's own defs -/
structure Cl (P : Program) (w : World) (K : Fr) (mg : Str → Option Value) (base : Heap) (g : G) (k n : Nat) (x : Str) (f : Fn) : Prop where
  ex : ∃ fa fd ps, FnOk P w K mg base (L2.CX P w) k fa fd ps (spG g n f) ∧ mg x = some (.ref fa) ∧ PySem.W.keepIn K (.ref fa) = true ∧ Binds K fd ps []
theorem pd_call {k j n : Nat} {x : Str} {f : Fn} {es : List Expr} {t : TA} {q : AA} {p : Pos} (c : Cl X.prog X.w X.K X.mg X.base (g.at X.K) k n x f) (hr : Room j X.A) (hx : ∀ σ, PassesAt (L2.CX X.prog X.w) X σ (E σ)) (ha : PAD X g E (a :: es) t q n) (hk : k ≤ j := by decide) (hg : Gl X x := by rfl)
    (hdb : (x == ("__debug__" : Str)) = false := by decide) (he : starEach (a :: es) X.env = (false, eval a X.env) :: starEach es X.env := by rfl) (hpl : (backTo pos (starEach es X.env)).any (·.1) = false := by rfl) (hK : X.K = K := by rfl) :
    PD X g E (.Call (.Name x p) (a :: es) [] pos) (tCallS (spG (g.at K) n f) E t) (aCall f q) := by
  subst hK
  obtain ⟨fa, fd, ps, h1, h2, h3, h4⟩ := c.ex
  exact ⟨pe_callS h1 (hr.mono hk) hg h2 h3 h4 hx ha.pa hdb he hpl, se_call ha.sa fun s xs ρ => ha.len _ _ _⟩
end
end
end DL

namespace DL
open PySem PySem.Spec PyProof.Rows L2
section
variable {X : Cx} {g : G} {E : EX} {K : Fr}
/-! what is walked -/
theorem pid_list {tg l : Expr} {tl : TE} {α : AE} (h : PD X g E l tl α) (hK : X.K = K := by rfl) : PID X g E tg l (iList K tl) (aItL α) := by
  subst hK
  exact ⟨pi_list h.pe, si_list (g := g.at X.K) h.se⟩
theorem pid_tup {tg l : Expr} {tl : TE} {α : AE} (h : PD X g E l tl α) (hK : X.K = K := by rfl) : PID X g E tg l (iTup K tl) (aItT α) := by
  subst hK
  exact ⟨pi_tup h.pe, si_tup (g := g.at X.K) h.se⟩
theorem pid_rng1 {tg a : Expr} {ta : TA} {q : AD} {p pos : Pos} (hm : X.mg "range" = none) (h : PDD X g E [a] ta q) (hg : Gl X "range" := by rfl) (hs : starEach [a] X.env = [(false, eval a X.env)] := by rfl) : PID X g E tg (.Call (.Name "range" p) [a] [] pos) (iRng1 ta) (aRng1 q) := ⟨pi_range1 hg hm h.pa hs, si_rng1 h.sd⟩
theorem pid_rng2 {tg a b : Expr} {ta : TA} {q : AD} {p pos : Pos} (hm : X.mg "range" = none) (h : PDD X g E [a, b] ta q) (hg : Gl X "range" := by rfl) (hs : starEach [a, b] X.env = [(false, eval a X.env), (false, eval b X.env)] := by rfl) (hs2 : starEach [b] X.env = [(false, eval b X.env)] := by rfl) :
    PID X g E tg (.Call (.Name "range" p) [a, b] [] pos) (iRng2 ta) (aRng2 q) := ⟨pi_range2 hg hm h.pa hs hs2, si_rng2 h.sd⟩
theorem pid_enum {a : Expr} {ta : TA} {q : AD} {p pos tpos : Pos} {elts : List Expr} {kk : Nat} (hm : X.mg "enumerate" = none) (h : PDD X g E [a] ta q) (hg : Gl X "enumerate" := by rfl) (hs : starEach [a] X.env = [(false, eval a X.env)] := by rfl) (hK : X.K = K := by rfl) :
    PID X g E (.Tuple elts kk tpos) (.Call (.Name "enumerate" p) [a] [] pos) (iEnum K ta) (aEnum q) := by
  subst hK
  exact ⟨pi_enum hg hm h.pa hs, si_enum (g := g.at X.K) h.sd⟩
theorem pid_zip {a b : Expr} {ta : TA} {q : AD} {p pos tpos : Pos} {elts : List Expr} {kk : Nat} (hm : X.mg "zip" = none) (h : PDD X g E [a, b] ta q) (hg : Gl X "zip" := by rfl) (hs : starEach [a, b] X.env = (false, eval a X.env) :: starEach [b] X.env := by rfl) (hpl : (backTo pos (starEach [b] X.env)).any (·.1) = false := by rfl) (hK : X.K = K := by rfl) :
    PID X g E (.Tuple elts kk tpos) (.Call (.Name "zip" p) [a, b] [] pos) (iZipK K ta) (aZip q) := by
  subst hK
  exact ⟨pi_zipK hg hm h.pa hs hpl, si_zip (g := g.at X.K) h.sd⟩
/-! targets -/
theorem pgd_name (i : Nat) {x : Str} {pos : Pos} (hN : X.N.Nodup) (hi : X.N[i]? = some x := by rfl) (hx : Loc X.env.scope x := by first | exact .inl rfl | exact .inr rfl) (hf : X.fn x = true ∨ X.env.scope.names.lookup x = some .local := by first | exact .inl rfl | exact .inr rfl | assumption) :
    PGD X g (.Name x pos) (gName i) (agName i) [i] := ⟨pg_name hN hi hx hf, sg_name i⟩
theorem pgsd_nil : PGsD X g [] gNil agNil [] := ⟨pgs_nil, sgs_nil⟩
theorem pgsd_cons {e : Expr} {es : List Expr} {t : TG} {u : TGs} {a : AG} {b : AGs} {ts us : List Nat} (h1 : PGD X g e t a ts) (h2 : PGsD X g es u b us) (hs : (assignEach (e :: es) X.env).map (·.2) = assign e X.env :: (assignEach es X.env).map (·.2) := by rfl) :
    PGsD X g (e :: es) (gCons t u) (agCons a b) (ts ++ us) := ⟨pgs_cons h1.pg h2.pg hs, sgs_cons h1.sg h2.sg⟩
theorem pgd_tup {es : List Expr} {k : Nat} {t : TGs} {n : Nat} {a : AGs} {ts : List Nat} {pos : Pos} (h : PGsD X g es t a ts) (hc : X.calm = true := by rfl) (hn : (assignEach es X.env).length = n := by rfl) (hst : (assignEach es X.env).findIdx? (·.1) = none := by rfl) (hK : X.K = K := by rfl) :
    PGD X g (.Tuple es k pos) (gTup K n t) (agTup n a) ts := by
  subst hK
  exact ⟨pg_tup hc h.pg hn hst, sg_tup (g := g.at X.K) h.sg⟩
theorem pgd_lst {es : List Expr} {k : Nat} {t : TGs} {n : Nat} {a : AGs} {ts : List Nat} {pos : Pos} (h : PGsD X g es t a ts) (hc : X.calm = true := by rfl) (hn : (assignEach es X.env).length = n := by rfl) (hst : (assignEach es X.env).findIdx? (·.1) = none := by rfl) (hK : X.K = K := by rfl) :
    PGD X g (.Tuple es k pos) (gLst K n t) (agLst n a) ts := by
  subst hK
  exact ⟨pg_lst hc h.pg hn hst, sg_lst (g := g.at X.K) h.sg⟩
/-! comprehensions -/
def aYes : AT := fun ρ => .ok true ρ
theorem st_yes {g : G} {E : EX} : ST g E tYes aYes := fun s Q ok h => Aft.here (s := s) ok h
structure PTsD (X : Cx) (g : G) (E : EX) (ifs : List Expr) (tt : TT) (a : AT) : Prop where
  pt : PTs X ifs tt
  st : ST (g.at X.K) E tt a
theorem ptsd_nil : PTsD X g E [] tYes aYes := ⟨pts_nil, st_yes⟩
theorem ptsd_one {c : Expr} {t : TT} {a : AT} (h : PTD X g E c t a) : PTsD X g E [c] t a := ⟨pts_one h.pt, h.st⟩
def sub (ts vs : List Nat) : Bool := ts.all fun j => vs.contains j
theorem sub_of {ts vs : List Nat} (h : sub ts vs = true) : ∀ j ∈ ts, j ∈ vs := fun j hj => List.contains_iff_mem.mp (List.all_eq_true.mp h j hj)
/-- own: the comprehension's names and slots -/
theorem pd_lc {elt tg iter : Expr} {ifs : List Expr} {scope : Scope} {pos : Pos} {wi : TI} {gt : TG} {tt : TT} {te : TE} {ai : AI} {ag : AG} {at_ : AT} {ae : AE} {ts : List Nat} {own : List (Str × Nat)} (hN : X.N.Nodup) (hi : PID X g E tg iter wi ai)
    (hg : ∀ (s : Shared) (H : Hp) (C : Addr) (cl : List (Str × Addr)) (fp : List Addr), PGD (X.blk s H scope (compEnvC scope cl C X.env) fp) g tg gt ag ts)
    (ht : ∀ (s : Shared) (H : Hp) (C : Addr) (cl : List (Str × Addr)) (fp : List Addr), PTsD (X.blk s H scope (compEnvC scope cl C X.env) fp) g E0 ifs tt at_)
    (he : ∀ (s : Shared) (H : Hp) (C : Addr) (cl : List (Str × Addr)) (fp : List Addr), PD (X.blk s H scope (compEnvC scope cl C X.env) fp) g E0 elt te ae)
    (ok : BlkOk X.N X.env.scope scope own) (hsub : sub ts (own.map (·.2)) = true := by rfl) (hc : X.calm = true := by rfl) (hs : ∀ x, foldedSetIterable iter X.env x = pure x := by intro _; rfl) :
    PD X g E (.ListComp elt [⟨tg, iter, ifs, 0⟩] scope pos) (tLc wi gt tt te (own.map (·.2))) (aLc (own.map (·.2)) ai ag at_ ae) :=
  ⟨pe_lc hc hN hi.pi ok (fun s H C cl fp => (hg s H C cl fp).pg) (fun s H C cl fp => (ht s H C cl fp).pt) (fun s H C cl fp => (he s H C cl fp).pe) hs,
    se_lc hi.si (hg X.s_0 X.H_0 0 [] []).sg (sub_of hsub) (ht X.s_0 X.H_0 0 [] []).st (he X.s_0 X.H_0 0 [] []).se⟩
/-- x = [..] -/
theorem psd_setLc {i : Nat} {y : Str} {py spos : Pos} {elt tg iter : Expr} {ifs : List Expr} {scope : Scope} {pos : Pos} {wi : TI} {gt : TG} {tt : TT} {te : TE} {ai : AI} {ag : AG} {at_ : AT} {ae : AE} {ts : List Nat} {own : List (Str × Nat)} (hN : X.N.Nodup) (hi : PID X g E tg iter wi ai)
    (hg : ∀ (s : Shared) (H : Hp) (C : Addr) (cl : List (Str × Addr)) (fp : List Addr), PGD (X.blk s H scope (compEnvC scope cl C X.env) fp) g tg gt ag ts)
    (ht : ∀ (s : Shared) (H : Hp) (C : Addr) (cl : List (Str × Addr)) (fp : List Addr), PTsD (X.blk s H scope (compEnvC scope cl C X.env) fp) g E0 ifs tt at_)
    (he : ∀ (s : Shared) (H : Hp) (C : Addr) (cl : List (Str × Addr)) (fp : List Addr), PD (X.blk s H scope (compEnvC scope cl C X.env) fp) g E0 elt te ae)
    (ok : BlkOk X.N X.env.scope scope own) (hsw : swapsWith (.ListComp elt [⟨tg, iter, ifs, 0⟩] scope pos) (some (.Name y py)) spos.line X.env = pure true) (hy : X.N[i]? = some y := by rfl) (hyl : X.env.scope.names.lookup y = some .local := by rfl) (hsub : sub ts (own.map (·.2)) = true := by rfl) (hc : X.calm = true := by rfl)
    (hs : ∀ x, foldedSetIterable iter X.env x = pure x := by intro _; rfl) :
    PSD X g E (.Assign [.Name y py] (.ListComp elt [⟨tg, iter, ifs, 0⟩] scope pos) spos) (tAsg (tLc wi gt tt te (own.map (·.2))) (gName i)) (asAsg (aLc (own.map (·.2)) ai ag at_ ae) (agName i)) :=
  ⟨ps_setLc hc hN hy hyl hsw hi.pi ok (fun s H C cl fp => (hg s H C cl fp).pg) (fun s H C cl fp => (ht s H C cl fp).pt) (fun s H C cl fp => (he s H C cl fp).pe) hs,
    ss_asg (se_lc hi.si (hg X.s_0 X.H_0 0 [] []).sg (sub_of hsub) (ht X.s_0 X.H_0 0 [] []).st (he X.s_0 X.H_0 0 [] []).se) (sg_name i)⟩
/-! statements -/
section
variable {st : Stmt} {rest : List Stmt} {t u : TS} {a b : AS} {pos : Pos}
theorem pssd_nil : PSsD X g E [] tNext asNext := ⟨pss_nil, ss_next⟩
theorem pssd_one (h : PSD X g E st t a) : PSsD X g E [st] t a := ⟨pss_one h.ps, h.ss⟩
theorem pssd_cons (h : PSD X g E st t a) (k : PSsD X g E rest u b) : PSsD X g E (st :: rest) (tSeq t u) (asSeq a b) := ⟨pss_cons h.ps k.ps, ss_seq h.ss k.ss⟩
theorem pssd_frz {i : Nat} (h : PSsD X g E rest t a) : PSsD X g E rest t (asFrz i a) := ⟨h.ps, ss_frz h.ss⟩
theorem psd_frz {i : Nat} (h : PSD X g E st t a) : PSD X g E st t (asFrz i a) := ⟨h.ps, ss_frz h.ss⟩
theorem psd_pass : PSD X g E (.Pass pos) tNext asNext := ⟨ps_pass, ss_next⟩
theorem psd_break : PSD X g E (.Break pos) tBreak asBreak := ⟨ps_break, ss_break⟩
theorem psd_cont : PSD X g E (.Continue pos) tCont asCont := ⟨ps_continue, ss_cont⟩
theorem psd_never : PSD X g E st tNever asBad := ⟨ps_never, ss_never⟩
theorem psd_ret {e : Expr} {te : TE} {α : AE} (h : PD X g E e te α) : PSD X g E (.Return (some e) pos) (tRet te) (asRet α) := ⟨ps_ret h.pe, ss_ret h.se⟩
theorem psd_drop {e : Expr} {te : TE} {α : AE} (h : PD X g E e te α) (hs : swapsWith e none pos.line X.env = pure false := by rfl) : PSD X g E (.Expr e pos) (tDrop te) (asDrop α) := ⟨ps_expr h.pe hs, ss_drop h.se⟩
theorem psd_if {c : Expr} {x y : List Stmt} {tc : TT} {φ : AT} (hc : PTD X g E c tc φ) (h : PSsD X g E x t a) (k : PSsD X g E y u b) : PSD X g E (.If c x y pos) (tIfS tc t u) (asIf φ a b) := ⟨ps_if hc.pt h.ps k.ps, ss_if hc.st h.ss k.ss⟩
theorem psd_asg {tg e : Expr} {te : TE} {gt : TG} {α : AE} {ag : AG} {ts : List Nat} (h : PD X g E e te α) (k : PGD X g tg gt ag ts) (hs : swapsWithSole [tg] e pos.line X.env = pure false := by rfl) (hw : swappedStores [tg] e X.env = pure none := by rfl) (h1 : (assignEach [tg] X.env).map (·.2) = [assign tg X.env] := by rfl) : PSD X g E (.Assign [tg] e pos) (tAsg te gt) (asAsg α ag) :=
  ⟨ps_asg h.pe k.pg hs hw h1, ss_asg h.se k.sg⟩
theorem psd_par {i j : Nat} {x y : Str} {e f : Expr} {ta : TA} {q : AD} {px py pt : Pos} {kt k2 pt2} (ha : PDD X g E [e, f] ta q) (hN : X.N.Nodup) (hw : swappedStores [.Tuple [.Name x px, .Name y py] kt pt] (.Tuple [e, f] k2 pt2) X.env = pure (some [x, y]) := by rfl) (hi : X.N[i]? = some x := by rfl) (hj : X.N[j]? = some y := by rfl) (hij : i ≠ j := by decide)
    (hx : X.env.scope.names.lookup x = some .local := by rfl) (hy : X.env.scope.names.lookup y = some .local := by rfl) (hc : X.calm = true := by rfl) (hs : swapsWithSole [.Tuple [.Name x px, .Name y py] kt pt] (.Tuple [e, f] k2 pt2) pos.line X.env = pure false := by rfl) :
    PSD X g E (.Assign [.Tuple [.Name x px, .Name y py] kt pt] (.Tuple [e, f] k2 pt2) pos) (tPar i j ta) (asPar i j q) := ⟨ps_par hc hN hi hj hij hx hy ha.pa hw hs, ss_par ha.sd⟩
theorem psd_for {tg iter : Expr} {body : List Stmt} {wi : TI} {gt : TG} {ai : AI} {ag : AG} {ts : List Nat} (hp : PassesOwn (model X.prog X.w) X.A X.env X.xe) (hi : PID X g E tg iter wi ai) (hg : PGD X g tg gt ag ts) (hb : PSsD X g E body t a) (hc : X.calm = true := by rfl) (hs : ∀ x, foldedSetIterable iter X.env x = pure x := by intro _; rfl) :
    PSD X g E (.For tg iter body [] pos) (tFor wi gt t) (asFor ai ag a) := ⟨ps_for hp hc hi.pi hg.pg hb.ps hs, ss_for hi.si hg.sg hb.ss⟩
theorem psd_while {n : Nat} {c : Expr} {body : List Stmt} {tc : TT} {φ : AT} (hp : PassesOwn (model X.prog X.w) X.A X.env X.xe) (hc : PTD X g E c tc φ) (hb : PSsD X g E body t a) : PSD X g E (.While c body [] pos) (tWhile tc t) (asWhile n φ a) := ⟨ps_while hp hc.pt hb.ps, ss_while hc.st hb.ss⟩
theorem psd_ownL {i : Nat} {x : Str} {px : Pos} {es : List Expr} {lp : Pos} {ta : TA} {q : AD} (h : PDD X g E es ta q) (hN : X.N.Nodup) (hi : X.N[i]? = some x := by rfl) (hx : Loc X.env.scope x := by first | exact .inl rfl | exact .inr rfl) (hf : X.fn x = true ∨ X.env.scope.names.lookup x = some .local := by first | exact .inl rfl | exact .inr rfl | assumption)
    (hs : swapsWithSole [.Name x px] (.List es lp) pos.line X.env = pure false := by rfl) (hw : swappedStores [.Name x px] (.List es lp) X.env = pure none := by rfl) : PSD X g E (.Assign [.Name x px] (.List es lp) pos) (tAsg (tLst ta) (gName i)) (asOwnL i q) := ⟨ps_asg (pe_lst h.pa) (pg_name hN hi hx hf) hs hw, ss_ownL h.sd⟩
theorem psd_town (i : Nat) {x : Str} {px : Pos} {lp : Pos} (hN : X.N.Nodup) (hi : X.N[i]? = some x := by rfl) (hx : Loc X.env.scope x := by first | exact .inl rfl | exact .inr rfl) (hf : X.fn x = true ∨ X.env.scope.names.lookup x = some .local := by first | exact .inl rfl | exact .inr rfl | assumption)
    (hs : swapsWithSole [.Name x px] (.List [] lp) pos.line X.env = pure false := by rfl) (hw : swappedStores [.Name x px] (.List [] lp) X.env = pure none := by rfl) : PSD X g E (.Assign [.Name x px] (.List [] lp) pos) (tAsg (tLst tNil) (gName i)) (asTown i) := ⟨ps_asg (pe_lst pa_nil) (pg_name hN hi hx hf) hs hw, ss_town⟩
theorem pe_app {i : Nat} {x : Str} {p apos cpos : Pos} {e : Expr} {te : TE} (he : PE X e te) (hn : PE X (.Name x p) (tVar i)) (hbase : attributeBase (.Name x p) "append" X.env (eval (.Name x p) X.env) = eval (.Name x p) X.env := by rfl)
    (hfew : ((backTo cpos (starEach [e] X.env)).all (fun x => !x.1) && (backToKw cpos (keywordEach [] X.env)).all (fun x => x.1.isSome) && decide (([e] : List Expr).length + ([] : List Keyword).length + (if ([] : List Keyword).isEmpty then 0 else 1) < 30)) = true := by rfl)
    (hline : (apos.endLine == cpos.line) = true := by rfl) (hs : starEach [e] X.env = (false, eval e X.env) :: starEach [] X.env := by rfl) (hpl : (backTo cpos (starEach [] X.env)).any (·.1) = false := by rfl) (hK : X.K = K := by rfl) :
    PE X (.Call (.Attribute (.Name x p) "append" apos) [e] [] cpos) (tBM K "list" rAppend (tVar i) (tCons te tNil)) := by
  subst hK
  exact pe_bm PySem.F.plainAttrs_list PySem.F.slot_list_append PySem.F.type_list_append mt_append hn (pa_cons he pa_nil hs) hbase hfew hline hs hpl
theorem pe_ext {i : Nat} {x : Str} {p apos cpos : Pos} {e : Expr} {te : TE} (he : PE X e te) (hn : PE X (.Name x p) (tVar i)) (hbase : attributeBase (.Name x p) "extend" X.env (eval (.Name x p) X.env) = eval (.Name x p) X.env := by rfl)
    (hfew : ((backTo cpos (starEach [e] X.env)).all (fun x => !x.1) && (backToKw cpos (keywordEach [] X.env)).all (fun x => x.1.isSome) && decide (([e] : List Expr).length + ([] : List Keyword).length + (if ([] : List Keyword).isEmpty then 0 else 1) < 30)) = true := by rfl)
    (hline : (apos.endLine == cpos.line) = true := by rfl) (hs : starEach [e] X.env = (false, eval e X.env) :: starEach [] X.env := by rfl) (hpl : (backTo cpos (starEach [] X.env)).any (·.1) = false := by rfl) (hK : X.K = K := by rfl) :
    PE X (.Call (.Attribute (.Name x p) "extend" apos) [e] [] cpos) (tBM K "list" rExtend (tVar i) (tCons te tNil)) := by
  subst hK
  exact pe_bm PySem.F.plainAttrs_list PySem.F.slot_list_extend PySem.F.type_list_extend mt_extend hn (pa_cons he pa_nil hs) hbase hfew hline hs hpl
theorem psd_app {i : Nat} {x : Str} {p apos cpos : Pos} {e : Expr} {te : TE} {α : AE} (he : PD X g E e te α) (hn : PE X (.Name x p) (tVar i)) (hbase : attributeBase (.Name x p) "append" X.env (eval (.Name x p) X.env) = eval (.Name x p) X.env := by rfl)
    (hfew : ((backTo cpos (starEach [e] X.env)).all (fun x => !x.1) && (backToKw cpos (keywordEach [] X.env)).all (fun x => x.1.isSome) && decide (([e] : List Expr).length + ([] : List Keyword).length + (if ([] : List Keyword).isEmpty then 0 else 1) < 30)) = true := by rfl)
    (hline : (apos.endLine == cpos.line) = true := by rfl) (hst : starEach [e] X.env = (false, eval (e) X.env) :: starEach [] X.env := by rfl) (hpl : (backTo cpos (starEach [] X.env)).any (·.1) = false := by rfl) (hs : swapsWith (.Call (.Attribute (.Name x p) "append" apos) [e] [] cpos) none pos.line X.env = pure false := by rfl) (hK : X.K = K := by rfl) :
    PSD X g E (.Expr (.Call (.Attribute (.Name x p) "append" apos) [e] [] cpos) pos) (tDrop (tBM K "list" rAppend (tVar i) (tCons te tNil))) (asApp i α) := by
  subst hK
  exact ⟨ps_expr (pe_app he.pe hn hbase hfew hline hst hpl) hs, ss_app (g := g.at X.K) he.se⟩
theorem psd_ext {i : Nat} {x : Str} {p apos cpos : Pos} {e : Expr} {te : TE} {α : AE} (he : PD X g E e te α) (hn : PE X (.Name x p) (tVar i)) (hbase : attributeBase (.Name x p) "extend" X.env (eval (.Name x p) X.env) = eval (.Name x p) X.env := by rfl)
    (hfew : ((backTo cpos (starEach [e] X.env)).all (fun x => !x.1) && (backToKw cpos (keywordEach [] X.env)).all (fun x => x.1.isSome) && decide (([e] : List Expr).length + ([] : List Keyword).length + (if ([] : List Keyword).isEmpty then 0 else 1) < 30)) = true := by rfl)
    (hline : (apos.endLine == cpos.line) = true := by rfl) (hst : starEach [e] X.env = (false, eval (e) X.env) :: starEach [] X.env := by rfl) (hpl : (backTo cpos (starEach [] X.env)).any (·.1) = false := by rfl) (hs : swapsWith (.Call (.Attribute (.Name x p) "extend" apos) [e] [] cpos) none pos.line X.env = pure false := by rfl) (hK : X.K = K := by rfl) :
    PSD X g E (.Expr (.Call (.Attribute (.Name x p) "extend" apos) [e] [] cpos) pos) (tDrop (tBM K "list" rExtend (tVar i) (tCons te tNil))) (asExt i α) := by
  subst hK
  exact ⟨ps_expr (pe_ext he.pe hn hbase hfew hline hst hpl) hs, ss_ext (g := g.at X.K) he.se⟩
theorem psd_appT {i : Nat} {x : Str} {p apos cpos : Pos} {j pp} (hn : PE X (.Name x p) (tVar i)) (hbase : attributeBase (.Name x p) "append" X.env (eval (.Name x p) X.env) = eval (.Name x p) X.env := by rfl)
    (hfew : ((backTo cpos (starEach [.Constant (.int 0) j pp] X.env)).all (fun x => !x.1) && (backToKw cpos (keywordEach [] X.env)).all (fun x => x.1.isSome) && decide (([.Constant (.int 0) j pp] : List Expr).length + ([] : List Keyword).length + (if ([] : List Keyword).isEmpty then 0 else 1) < 30)) = true := by rfl)
    (hline : (apos.endLine == cpos.line) = true := by rfl) (hst : starEach [.Constant (.int 0) j pp] X.env = (false, eval (.Constant (.int 0) j pp) X.env) :: starEach [] X.env := by rfl) (hpl : (backTo cpos (starEach [] X.env)).any (·.1) = false := by rfl) (hs : swapsWith (.Call (.Attribute (.Name x p) "append" apos) [.Constant (.int 0) j pp] [] cpos) none pos.line X.env = pure false := by rfl) (hK : X.K = K := by rfl) :
    PSD X g E (.Expr (.Call (.Attribute (.Name x p) "append" apos) [.Constant (.int 0) j pp] [] cpos) pos) (tDrop (tBM K "list" rAppend (tVar i) (tCons (tC (.int 0)) tNil))) (asAppT i) := by
  subst hK
  exact ⟨ps_expr (pe_app pe_int hn hbase hfew hline hst hpl) hs, ss_appT (g := g.at X.K)⟩
theorem psd_setI {i : Nat} {x : Str} {p sp : Pos} {j e : Expr} {te tj : TE} {α β : AE} (he : PD X g E e te α) (hj : PD X g E j tj β) (hn : PE X (.Name x p) (tVar i))
    (ha : ∀ v, assign (.Subscript (.Name x p) j sp) X.env v = (do
      let ov ← holding [v] (eval (.Name x p) X.env)
      let iv ← holding [v, ov] (eval j X.env)
      standAt sp
      holding [v, ov, iv] (setItem ov iv v)
      release [v, ov, iv] []) := by intro _; rfl) (hs : swapsWithSole [.Subscript (.Name x p) j sp] e pos.line X.env = pure false := by rfl) (hw : swappedStores [.Subscript (.Name x p) j sp] e X.env = pure none := by rfl) :
    PSD X g E (.Assign [.Subscript (.Name x p) j sp] e pos) (tAsg te (gSub (tVar i) tj rSetL)) (asSetI i α β) := ⟨ps_asg he.pe (pg_sub hn hj.pe set_list ha) hs hw, ss_setI he.se hj.se⟩
/-- raise C('..') -/
def asRaise (e : Nat) : AS := fun ρ => .exc e ρ
structure ExcAt (K : Fr) (mg : Str → Option Value) (x : Str) (c : Addr) : Prop where
  gC : mg x = some (.ref c)
  xC : PySem.W.excIn K c [.type "ValueError", .type "Exception", .type "BaseException", .type "object"] "ValueError.__new__" = true
  kC : PySem.W.keepIn K (.ref c) = true
  bC : PySem.W.subIn K (.ref c) (.type "BaseException") = some true
  tC : PySem.W.typeIn K (.ref c) = some (.type "type")
theorem psd_raise {x m : Str} {j} {p p2 cp : Pos} {n : Nat} {c : Addr} {EE : XK} (T : ExcAt X.K X.mg x c) (hn : g.cls n = .ref c) (tk : L2.Takes X (fun cls d _ H => EE cls d H)) (hg : Gl X x := by rfl) (hc : X.calm = true := by rfl) (hdb : (x == ("__debug__" : Str)) = false := by decide) :
    PSD X g (fun _ => EE) (.Raise (some (.Call (.Name x p) [.Constant (.str m) j p2] [] cp)) none pos) (fun _ σ H => EE (.ref c) none H) (asRaise n) :=
  ⟨ps_raise hc tk (pmk_own PySem.F.excBase_ValueError T.xC T.gC T.kC (raises_own T.bC T.tC) hg hdb), fun s D ok h => by
    have := h s rfl ok (Go.refl s)
    rw [show (g.at X.K).cls n = .ref c from hn] at this
    exact this⟩
/-- within a comprehension nothing is raised -/
theorem pxE0 : ∀ σ, PassesAt (L2.CX X.prog X.w) X σ (E0 σ) := fun σ pins H s e s' I c => passL pins σ H s e s' I c
end
end
/-- the def's own frame lets what is raised out -/
theorem cl_mk {P : Program} {w : World} {K : Fr} {mg : Str → Option Value} {base : Heap} {g : G} {k n : Nat} {x : Str} {f : Fn} {fa : Addr} {fd : FuncData} {ps : List Str} (h : FnOk P w K mg base (L2.CX P w) k fa fd ps (spG (g.at K) n f)) (hm : mg x = some (.ref fa)) (hk : PySem.W.keepIn K (.ref fa) = true) (hb : Binds K fd ps []) :
    Cl P w K mg base (g.at K) k n x f := ⟨fa, fd, ps, h, hm, hk, hb⟩
end DL

namespace DL
open PySem PySem.Spec PyProof.Rows L2
/-- a script: at most 63 whole numbers of at most 2^20 bits each -/
def Scr (ns : List Int) : Prop := ns.length ≤ 63 ∧ ∀ z ∈ ns, Builtin.Int.intBits z ≤ 1048576
def spLaw (K : Fr) : Sp := fun vs H Q _ => ∃ (a : Addr) (ns : List Int), vs = [.ref a] ∧ SqF K H a (ns.map V.int) ∧ Scr ns ∧ ∀ H', Q (.bl true) H'
theorem fn_law {P : Program} {w : World} {K : Fr} {mg : Str → Option Value} {base : Heap} {C : Addr} {cls : Nat → Value} {k : Nat} {fa : Addr} {fd : FuncData} {ps : List Str} {f : Fn} (F : FnOk P w K mg base (L2.CX P w) k fa fd ps (spG ⟨K, C, cls, 0, 0⟩ 1 f))
    (h : ∀ ns, Scr ns → ∃ ss, f [.pin (.scr ns)] = .ok (.bool true) ss) : FnOk P w K mg base (L2.CX P w) k fa fd ps (spLaw K) := by
  have m : ∀ vs H Q E, spLaw K vs H Q E → spG ⟨K, C, cls, 0, 0⟩ 1 f vs H Q E := fun vs H Q E ⟨a, ns, ev, hs, hb, k⟩ => by
    subst ev
    obtain ⟨ss, e⟩ := h ns hb
    refine ⟨rfl, H, fun _ => False, [.pin (.scr ns)], ⟨.refl _, fun _ q => q.elim, rfl, fun _ _ => False, fun _ _ q => q, fun _ _ _ q => q.elim, fun i x hx => ?_⟩, ?_⟩
    · cases i with
      | zero =>
        have hx : some (Sl.pin (.scr ns)) = some x := hx
        cases hx
        exact ⟨a, rfl, hs⟩
      | succ i => simp at hx
    · rw [e]
      intro v t _ _ _ _ r
      cases r
      exact k _
  exact ⟨fun vs H Q E q => F.len vs H Q E (m vs H Q E q), fun A outer s H args us vs Q E h1 h2 h3 h4 q => F.run A outer s H args us vs Q E h1 h2 h3 h4 (m vs H Q E q)⟩
theorem walk {l : PySem.W.OpenLaw} {k : Nat} {q : Program} {loose : List Str} {XP : (Str → Option Value) → Heap → Prop} {YP : World → Heap → Prop} {d : DefRec} {K : Params → Fr} (hn : l.most = some 63) (hdf : d.params.defaults = []) (hr : Room k callerA)
    (hY : ∀ (w : World) (h : Heap), YP w h → (K w.params).In h)
    (F : ∀ (w : World) (mg : Str → Option Value) (fa : Addr) (h : Heap), (K w.params).In h → h.Ns mainGlobals mg → mg d.name = some (.ref fa) →
      ∃ fd : FuncData, (∀ (s : Shared) (u : Value), BindsTo s fd ⟨[u], []⟩ [("_law_script", u)]) ∧ ∀ base : Heap, (K w.params).In base → base.Ns mainGlobals mg → FnOk l.prog w (K w.params) mg base (L2.CX l.prog w) k fa fd ["_law_script"] (spLaw (K w.params))) :
    PySem.W.WalkO q loose XP YP l.row.toRowW d [] (fun f vs => PySem.call f vs) :=
  L2.walk_ofB (n := 63) (k := k) (x := "_law_script") (CX := fun w => L2.CX l.prog w) (sp := fun w => spLaw (K w.params)) hn (by decide) hdf hr hY F (fun w H a ns hl hb hO hS => ⟨a, ns, rfl, by
    rcases hS with (h | h) | h
    · rcases hO a with q | ⟨o, xs, q⟩
      · rw [q] at h; cases h
      · rw [q] at h; cases h
    · exact .inl h
    · exact .inr h, ⟨hl, hb⟩, fun _ => rfl⟩) fun w H s e s' ⟨_, _, _, _, _, _, _, _, _, _, _, _, z⟩ => z
end DL

/-! How meanings are reckoned by rewriting: each continuation is a name, so that nothing is looked at ahead of its turn. -/
namespace DL
open PySem PySem.Spec PyProof.Rows L2
section
variable {α β : Type} {ρ : List Sl}
theorem bind_ok' {a : α} {f : α → List Sl → Res β} : (Res.ok a ρ).bind f = f a ρ := rfl
theorem bind_exc' {e : Nat} {f : α → List Sl → Res β} : (Res.exc e ρ : Res α).bind f = .exc e ρ := rfl
theorem thn_ok' {a : α} {f : α → List Sl → SRes} : (Res.ok a ρ).thn f = f a ρ := rfl
theorem thn_exc' {e : Nat} {f : α → List Sl → SRes} : (Res.exc e ρ : Res α).thn f = .exc e ρ := rfl
theorem nox_ok' {a : α} : (Res.ok a ρ).nox = .ok a ρ := rfl
theorem lift_some {a : α} : lift (some a) ρ = .ok a ρ := rfl
end
section
variable {ρ : List Sl}
theorem seq_nx' {f : AS} : (SRes.nx ρ).seq f = f ρ := rfl
theorem seq_rt' {d : PyData} {f : AS} : (SRes.rt d ρ).seq f = .rt d ρ := rfl
theorem seq_ct' {f : AS} : (SRes.ct ρ).seq f = .ct ρ := rfl
theorem seq_bk' {f : AS} : (SRes.bk ρ).seq f = .bk ρ := rfl
theorem seq_exc' {e : Nat} {f : AS} : (SRes.exc e ρ).seq f = .exc e ρ := rfl
end
/-! continuations -/
def kLift (f : PyData → Option PyData) (d : PyData) (ρ : List Sl) : Res PyData := lift (f d) ρ
def kBin (f : PyData → PyData → Option PyData) (b : AE) (d1 : PyData) (ρ : List Sl) : Res PyData := (b ρ).bind (kLift (f d1))
def kNeg (d : PyData) (ρ : List Sl) : Res PyData := match d with | .int i => .ok (.int (-i)) ρ | _ => .bad
def kTest (d : PyData) (ρ : List Sl) : Res Bool := match d with | .bool b => .ok b ρ | _ => .bad
def kNot (c : Bool) (ρ : List Sl) : Res Bool := .ok (!c) ρ
def kNotV (c : Bool) (ρ : List Sl) : Res PyData := .ok (.bool (!c)) ρ
def kPick {γ : Type} (a b : List Sl → γ) (c : Bool) (ρ : List Sl) : γ := match c with | true => a ρ | false => b ρ
def kOk {α : Type} (d : α) (ρ : List Sl) : Res α := .ok d ρ
def kChain2 (f' : PyData → PyData → Option PyData) (c : AE) (d2 : PyData) (x : Option PyData) (ρ : List Sl) : Res PyData := match x with
  | some (.bool true) => (c ρ).bind (kLift (f' d2))
  | some (.bool false) => .ok (.bool false) ρ
  | _ => .bad
def kChain1 (f f' : PyData → PyData → Option PyData) (c : AE) (d1 d2 : PyData) (ρ : List Sl) : Res PyData := kChain2 f' c d2 (f d1 d2) ρ
def kChain (f f' : PyData → PyData → Option PyData) (b c : AE) (d1 : PyData) (ρ : List Sl) : Res PyData := (b ρ).bind (kChain1 f f' c d1)
def kIsi (T : String) (d : PyData) (ρ : List Sl) : Res PyData := lift ((kitB (tyD d) T).map .bool) ρ
def kCB (f : List PyData → Option PyData) (ds : List PyData) (ρ : List Sl) : Res PyData := lift (f ds) ρ
def kHead {α : Type} (d : α) (ds : List α) (ρ : List Sl) : Res (List α) := .ok (d :: ds) ρ
def kCons (q : AD) (d : PyData) (ρ : List Sl) : Res (List PyData) := (q ρ).bind (kHead d)
def kTup (ds : List PyData) (ρ : List Sl) : Res PyData := if ds.length ≤ 1000 then .ok (.tuple ds) ρ else .bad
def kLst (ds : List PyData) (ρ : List Sl) : Res PyData := if ds.length ≤ 1000 then .ok (.list ds) ρ else .bad
def kSl2 (d : PyData) (lo hi : Option Int) (ρ : List Sl) : Res PyData := lift (oSl lo hi d) ρ
def kSl1 (h : AO) (d : PyData) (lo : Option Int) (ρ : List Sl) : Res PyData := (h ρ).bind (kSl2 d lo)
def kSl (l h : AO) (d : PyData) (ρ : List Sl) : Res PyData := (l ρ).bind (kSl1 h d)
def kPart (d : PyData) (ρ : List Sl) : Res (Option Int) := match d with | .int i => .ok (some i) ρ | _ => .bad
def kRev (d : PyData) (ρ : List Sl) : Res PyData := match d with | .list ds => .ok (.list ds.reverse) ρ | _ => .bad
def FRes.res (xs : List Arg) (ρ : List Sl) : FRes → Res PyData
  | .ok d ss => .ok d (putPins xs ss ρ)
  | .exc e ss => .exc e (putPins xs ss ρ)
  | .bad => .bad
def kCall (f : Fn) (xs : List Arg) (ρ : List Sl) : Res PyData := match pinsOk [] xs with | true => (f (xs.map (argS ρ))).res xs ρ | false => .bad
def kAA (q : AA) (d : PyData) (ρ : List Sl) : Res (List Arg) := (q ρ).bind (kHead (Sum.inl d))
def kPin (i : Nat) (q : AA) (c : Bool) (ρ : List Sl) : Res (List Arg) := match c with | true => (q ρ).bind (kHead (Sum.inr i)) | false => .bad
def kNx {α : Type} (_ : α) (ρ : List Sl) : SRes := .nx ρ
def kRt (d : PyData) (ρ : List Sl) : SRes := .rt d ρ
def nxO (o : Option (List Sl)) : SRes := match o with
  | some ρ => .nx ρ
  | none => .bad
def kAsg (gt : AG) (d : PyData) (ρ : List Sl) : SRes := nxO (gt d ρ)
def kPar (i j : Nat) (ds : List PyData) (ρ : List Sl) : SRes := match ds with
  | [d1, d2] => nxO ((putS ρ i (.dat d1)).bind fun ρ2 => putS ρ2 j (.dat d2))
  | _ => .bad
def kOwnL (i : Nat) (ds : List PyData) (ρ : List Sl) : SRes := if ds.length ≤ 1000 then nxO (putS ρ i (.own (.list ds))) else .bad
def appB (i : Nat) (d : PyData) (ρ : List Sl) (s : Sl) : SRes := match s with
  | .own (.list ds) => if ds.length ≤ 10000 then .nx (ρ.set i (.own (.list (ds ++ [d])))) else .bad
  | _ => .bad
def kApp (i : Nat) (d : PyData) (ρ : List Sl) : SRes := appB i d ρ (sl ρ i)
def sApp (i : Nat) (a : AE) (ρ : List Sl) (s : Sl) : SRes := match s with | .own (.list _) => (a ρ).thn (kApp i) | _ => .bad
def sAppT (i : Nat) (ρ : List Sl) (s : Sl) : SRes := match s with | .pin (.town n) => if n ≤ 1000000 then .nx (ρ.set i (.pin (.town (n + 1)))) else .bad | _ => .bad
def extB (i : Nat) (d : PyData) (ρ : List Sl) (s : Sl) : SRes := match d, s with
  | .list zs, .own (.list ds) => if ds.length + zs.length ≤ 100000 then .nx (ρ.set i (.own (.list (ds ++ zs)))) else .bad
  | _, _ => .bad
def kExt (i : Nat) (d : PyData) (ρ : List Sl) : SRes := extB i d ρ (sl ρ i)
def sExt (i : Nat) (a : AE) (ρ : List Sl) (s : Sl) : SRes := match s with | .own (.list _) => (a ρ).thn (kExt i) | _ => .bad
def setB (i : Nat) (d : PyData) (j : PyData) (ρ : List Sl) (s : Sl) : SRes := match j, s with
  | .int k, .own (.list ds) => nxO ((ixN ds.length k).map fun n => ρ.set i (.own (.list (ds.set n d))))
  | _, _ => .bad
def kSet2 (i : Nat) (d : PyData) (j : PyData) (ρ : List Sl) : SRes := setB i d j ρ (sl ρ i)
def kSet1 (i : Nat) (b : AE) (d : PyData) (ρ : List Sl) (s : Sl) : SRes := match s with | .own (.list _) => (b ρ).thn (kSet2 i d) | _ => .bad
def kSet (i : Nat) (b : AE) (d : PyData) (ρ : List Sl) : SRes := kSet1 i b d ρ (sl ρ i)
def runO (o : Option (List Sl)) (x : AS) : SRes := match o with
  | some ρ => x ρ
  | none => .bad
def kFor (gt : AG) (x : AS) (ds : List PyData) (ρ : List Sl) : SRes := forGo gt x ds ρ
def SRes.loop (r : SRes) (k : List Sl → SRes) : SRes := match r with
  | .nx ρ => k ρ
  | .ct ρ => k ρ
  | .bk ρ => .nx ρ
  | .rt d ρ => .rt d ρ
  | .exc e ρ => .exc e ρ
  | .bad => .bad
def kWh (c : AT) (x : AS) (n : Nat) (z : Bool) (ρ : List Sl) : SRes := match z with | true => (x ρ).loop (whileGo c x n) | false => .nx ρ
def kItL (d : PyData) (ρ : List Sl) : Res (List PyData) := match d with | .list ds => .ok ds ρ | _ => .bad
def kItT (d : PyData) (ρ : List Sl) : Res (List PyData) := match d with | .tuple ds => .ok ds ρ | _ => .bad
def kRng1 (ds : List PyData) (ρ : List Sl) : Res (List PyData) := match ds with | [.int j] => if inR j = true then .ok (rangeD 0 j.toNat) ρ else .bad | _ => .bad
def kRng2 (ds : List PyData) (ρ : List Sl) : Res (List PyData) := match ds with | [.int i, .int j] => if inR i = true ∧ inR j = true then .ok (rangeD i (j - i).toNat) ρ else .bad | _ => .bad
def kEnum (ds : List PyData) (ρ : List Sl) : Res (List PyData) := match ds with | [.list l] => .ok (enumD 0 l) ρ | _ => .bad
def kZip2 (a b : Option (List PyData)) (ρ : List Sl) : Res (List PyData) := match a, b with | some l1, some l2 => .ok (zipD l1 l2) ρ | _, _ => .bad
def kZip (ds : List PyData) (ρ : List Sl) : Res (List PyData) := match ds with | [d1, d2] => kZip2 (seqD d1) (seqD d2) ρ | _ => .bad
def kLcE (vs : List Nat) (ρ1 : List Sl) (acc : List PyData) (ρ : List Sl) : Res PyData := .ok (.list acc) (backS ρ1 ρ vs)
def kLc (vs : List Nat) (gt : AG) (tt : AT) (te : AE) (ds : List PyData) (ρ : List Sl) : Res PyData := match vs.all (fun v => plainS (sl ρ v)) with
  | true => (lcGo vs gt tt te ds (wipeS ρ vs) []).bind (kLcE vs ρ)
  | false => .bad
def bindO {γ : Type} (o : Option (List Sl)) (k : List Sl → Res γ) : Res γ := match o with
  | some ρ => k ρ
  | none => .bad
def kLc3 (vs : List Nat) (gt : AG) (tt : AT) (te : AE) (ds acc : List PyData) (y : PyData) (ρ : List Sl) : Res (List PyData) := if acc.length ≤ 10000 then lcGo vs gt tt te ds (wipeS ρ vs) (acc ++ [y]) else .bad
def kLc2 (vs : List Nat) (gt : AG) (tt : AT) (te : AE) (ds acc : List PyData) (b : Bool) (ρ : List Sl) : Res (List PyData) := match b with
  | true => (te ρ).nox.bind (kLc3 vs gt tt te ds acc)
  | false => lcGo vs gt tt te ds (wipeS ρ vs) acc
def kLc1 (vs : List Nat) (gt : AG) (tt : AT) (te : AE) (ds acc : List PyData) (ρ : List Sl) : Res (List PyData) := (tt ρ).nox.bind (kLc2 vs gt tt te ds acc)
def SRes.end (ss : List Sl) : SRes → FRes
  | .rt d ρ => .ok d (pinsFrom ρ 0 ss)
  | .nx ρ => .ok .none (pinsFrom ρ 0 ss)
  | .exc e ρ => .exc e (pinsFrom ρ 0 ss)
  | _ => .bad
def varB (s : Sl) (ρ : List Sl) : Res PyData := match s with | .dat d => .ok d ρ | _ => .bad
def lenB (s : Sl) (ρ : List Sl) : Res PyData := match s with | .own (.list ds) => .ok (.int ds.length) ρ | _ => .bad
def lenPB (s : Sl) (ρ : List Sl) : Res PyData := match s with | .pin (.scr ns) => .ok (.int ns.length) ρ | .pin (.town n) => .ok (.int n) ρ | _ => .bad
def scrB (f : List Int → PyData → Option PyData) (b : AE) (s : Sl) (ρ : List Sl) : Res PyData := match s with | .pin (.scr ns) => (b ρ).bind (kLift (f ns)) | _ => .bad
def ownB (f : PyData → PyData → Option PyData) (d2 : PyData) (ρ : List Sl) (s : Sl) : Res PyData := match s with | .own d1 => lift (f d1 d2) ρ | _ => .bad
def kOwn (f : PyData → PyData → Option PyData) (i : Nat) (d2 : PyData) (ρ : List Sl) : Res PyData := ownB f d2 ρ (sl ρ i)
def sOwn (f : PyData → PyData → Option PyData) (i : Nat) (b : AE) (ρ : List Sl) (s : Sl) : Res PyData := match s with | .own _ => (b ρ).bind (kOwn f i) | _ => .bad
def slB (lo hi : Option Int) (ρ : List Sl) (s : Sl) : Res PyData := match s with | .own (.list ds) => .ok (.list (cutG ds lo hi)) ρ | _ => .bad
def kSlO2 (i : Nat) (lo hi : Option Int) (ρ : List Sl) : Res PyData := slB lo hi ρ (sl ρ i)
def kSlO1 (i : Nat) (h : AO) (lo : Option Int) (ρ : List Sl) : Res PyData := (h ρ).bind (kSlO2 i lo)
def sSlO (i : Nat) (l h : AO) (ρ : List Sl) (s : Sl) : Res PyData := match s with | .own _ => (l ρ).bind (kSlO1 i h) | _ => .bad

/-- a slot that may hold anything, or nothing -/
def jk : Option PyData → Sl
  | none => .none
  | some d => .dat d
section
variable {a b c : AE} {ρ : List Sl}
theorem e_var {i : Nat} : aVar i ρ = varB (sl ρ i) ρ := rfl
theorem e_c {d : PyData} : aC d ρ = .ok d ρ := rfl
theorem e_bin {f : PyData → PyData → Option PyData} : aBin f a b ρ = (a ρ).bind (kBin f b) := rfl
theorem e_neg : aNeg a ρ = (a ρ).bind kNeg := rfl
theorem e_test : aTest a ρ = (a ρ).bind kTest := rfl
theorem e_not {a : AT} : aNot a ρ = (a ρ).bind kNot := rfl
theorem pick_eq {γ : Type} {x y : List Sl → γ} : (fun (c : Bool) (ρ1 : List Sl) => if c = true then x ρ1 else y ρ1) = kPick x y := by
  funext c ρ1; cases c <;> rfl
theorem e_and {a b : AT} : aAnd a b ρ = (a ρ).bind (kPick b (kOk false)) := by rw [← pick_eq]; rfl
theorem e_or {a b : AT} : aOr a b ρ = (a ρ).bind (kPick (kOk true) b) := by rw [← pick_eq]; rfl
theorem e_andV : aAndV a b ρ = (aTest a ρ).bind (kPick b (kOk (.bool false))) := by rw [← pick_eq]; rfl
theorem e_orV : aOrV a b ρ = (aTest a ρ).bind (kPick (kOk (.bool true)) b) := by rw [← pick_eq]; rfl
theorem e_notV : aNotV a ρ = (aTest a ρ).bind kNotV := rfl
theorem e_if {c : AT} : aIf c a b ρ = (c ρ).bind (kPick a b) := by rw [← pick_eq]; rfl
theorem e_chain {f f' : PyData → PyData → Option PyData} : aChain f f' a b c ρ = (a ρ).bind (kChain f f' b c) := rfl
theorem e_isi {T : String} : aIsi T a ρ = (a ρ).bind (kIsi T) := rfl
theorem e_cb {f : List PyData → Option PyData} {q : AD} : aCB f q ρ = (q ρ).bind (kCB f) := rfl
theorem e_cons {q : AD} : aCons a q ρ = (a ρ).bind (kCons q) := rfl
theorem e_nil : aNil ρ = .ok [] ρ := rfl
theorem e_tup {q : AD} : aTup q ρ = (q ρ).bind kTup := rfl
theorem e_lst {q : AD} : aLst q ρ = (q ρ).bind kLst := rfl
theorem e_sl {l h : AO} : aSl a l h ρ = (a ρ).bind (kSl l h) := rfl
theorem e_part : aPart a ρ = (a ρ).bind kPart := rfl
theorem e_noPart : aNoPart ρ = .ok none ρ := rfl
theorem e_rev : aRev a ρ = (a ρ).bind kRev := rfl
theorem e_lenO {i : Nat} : aLenO i ρ = lenB (sl ρ i) ρ := rfl
theorem e_lenP {i : Nat} : aLenP i ρ = lenPB (sl ρ i) ρ := rfl
theorem e_scr {f : List Int → PyData → Option PyData} {i : Nat} : aScr f i b ρ = scrB f b (sl ρ i) ρ := rfl
theorem e_obin {f : PyData → PyData → Option PyData} {i : Nat} : aOBin f i b ρ = sOwn f i b ρ (sl ρ i) := rfl
theorem e_slO {i : Nat} {l h : AO} : aSlO i l h ρ = sSlO i l h ρ (sl ρ i) := rfl
theorem e_call {f : Fn} {q : AA} : aCall f q ρ = (q ρ).bind (kCall f) := by
  unfold aCall
  congr 1; funext xs ρ1
  unfold callRes kCall
  cases pinsOk [] xs with
  | false => rfl
  | true => show (match f _ with | .ok d ss => Res.ok d _ | .exc e ss => .exc e _ | .bad => .bad) = _; cases f (xs.map (argS ρ1)) <;> rfl
theorem res_ok {d : PyData} {ss : List Sl} {xs : List Arg} : (FRes.ok d ss).res xs ρ = .ok d (putPins xs ss ρ) := rfl
theorem res_exc {e : Nat} {ss : List Sl} {xs : List Arg} : (FRes.exc e ss).res xs ρ = .exc e (putPins xs ss ρ) := rfl
theorem e_aacons {q : AA} : aaCons a q ρ = (a ρ).bind (kAA q) := rfl
theorem e_aanil : aaNil ρ = .ok [] ρ := rfl
theorem e_aapin {i : Nat} {q : AA} : aaPin i q ρ = kPin i q (isPin (sl ρ i)) ρ := by
  unfold aaPin kPin
  cases isPin (sl ρ i) <;> rfl
theorem e_seq {x y : AS} : asSeq x y ρ = (x ρ).seq y := rfl
theorem e_next : asNext ρ = .nx ρ := rfl
theorem e_brk : asBreak ρ = .bk ρ := rfl
theorem e_cont : asCont ρ = .ct ρ := rfl
theorem e_drop : asDrop a ρ = (a ρ).thn kNx := rfl
theorem e_ret : asRet a ρ = (a ρ).thn kRt := rfl
theorem e_ifS {c : AT} {x y : AS} : asIf c x y ρ = (c ρ).thn (kPick x y) := by rw [← pick_eq]; rfl
theorem nxO_some : nxO (some ρ) = .nx ρ := rfl
theorem e_asg {gt : AG} : asAsg a gt ρ = (a ρ).thn (kAsg gt) := rfl
theorem e_par {i j : Nat} {q : AD} : asPar i j q ρ = (q ρ).thn (kPar i j) := by
  unfold asPar
  congr 1; funext ds ρ1
  rcases ds with _ | ⟨d1, _ | ⟨d2, _ | ⟨d3, r⟩⟩⟩
  · rfl
  · rfl
  · show (match putS ρ1 i (.dat d1) with | some ρ2 => (match putS ρ2 j (.dat d2) with | some ρ3 => SRes.nx ρ3 | none => .bad) | none => .bad) = nxO ((putS ρ1 i (.dat d1)).bind fun ρ2 => putS ρ2 j (.dat d2))
    cases putS ρ1 i (.dat d1) with
    | none => rfl
    | some ρ2 => show (match putS ρ2 j (.dat d2) with | some ρ3 => SRes.nx ρ3 | none => .bad) = nxO (putS ρ2 j (.dat d2)); cases putS ρ2 j (.dat d2) <;> rfl
  · rfl
theorem e_raise {e : Nat} : asRaise e ρ = .exc e ρ := rfl
theorem e_town {i : Nat} : asTown i ρ = nxO (putS ρ i (.pin (.town 0))) := rfl
theorem e_ownL {i : Nat} {q : AD} : asOwnL i q ρ = (q ρ).thn (kOwnL i) := rfl
theorem e_ownD {i : Nat} : asOwnD i ρ = nxO (putS ρ i (.own (.dict []))) := rfl
theorem e_app {i : Nat} : asApp i a ρ = sApp i a ρ (sl ρ i) := rfl
theorem e_appT {i : Nat} : asAppT i ρ = sAppT i ρ (sl ρ i) := rfl
theorem e_ext {i : Nat} : asExt i a ρ = sExt i a ρ (sl ρ i) := rfl
theorem e_setI {i : Nat} : asSetI i a b ρ = (a ρ).thn (kSet i b) := by
  unfold asSetI
  congr 1; funext d ρ1
  unfold kSet
  cases sl ρ1 i with
  | none => rfl
  | dat _ => rfl
  | pin _ => rfl
  | own d0 =>
    cases d0 with
    | list ds0 =>
      show (b ρ1).thn _ = (b ρ1).thn _
      congr 1; funext j ρ2
      unfold kSet2
      cases j with
      | int k =>
        cases sl ρ2 i with
        | none => rfl
        | dat _ => rfl
        | pin _ => rfl
        | own d1 =>
          cases d1 with
          | list ds => show (match ixN ds.length k with | some n => SRes.nx (ρ2.set i (.own (.list (ds.set n d)))) | none => .bad) = nxO ((ixN ds.length k).map fun n => ρ2.set i (.own (.list (ds.set n d)))); cases ixN ds.length k <;> rfl
          | _ => rfl
      | _ => rfl
    | _ => rfl
theorem runO_some {x : AS} : runO (some ρ) x = x ρ := rfl
theorem e_frz {i : Nat} {x : AS} : asFrz i x ρ = runO (frz i ρ) x := rfl
theorem e_for {ai : AI} {gt : AG} {x : AS} : asFor ai gt x ρ = (ai ρ).thn (kFor gt x) := rfl
theorem loop_nx {k : List Sl → SRes} : (SRes.nx ρ).loop k = k ρ := rfl
theorem loop_ct {k : List Sl → SRes} : (SRes.ct ρ).loop k = k ρ := rfl
theorem loop_bk {k : List Sl → SRes} : (SRes.bk ρ).loop k = .nx ρ := rfl
theorem loop_rt {d : PyData} {k : List Sl → SRes} : (SRes.rt d ρ).loop k = .rt d ρ := rfl
theorem loop_exc {e : Nat} {k : List Sl → SRes} : (SRes.exc e ρ).loop k = .exc e ρ := rfl
theorem forGo_nil {gt : AG} {x : AS} : forGo gt x [] ρ = .nx ρ := rfl
theorem forGo_cons {gt : AG} {x : AS} {d : PyData} {ds : List PyData} : forGo gt x (d :: ds) ρ = (runO (gt d ρ) x).loop (forGo gt x ds) := by
  show (match gt d ρ with | none => SRes.bad | some ρ1 => _) = _
  cases gt d ρ with
  | none => rfl
  | some ρ1 => show (match x ρ1 with | .nx ρ2 => forGo gt x ds ρ2 | .ct ρ2 => forGo gt x ds ρ2 | .bk ρ2 => .nx ρ2 | .rt d ρ2 => .rt d ρ2 | .exc e ρ2 => .exc e ρ2 | .bad => .bad) = (x ρ1).loop _; cases x ρ1 <;> rfl
theorem e_while {n : Nat} {c : AT} {x : AS} : asWhile n c x ρ = whileGo c x n ρ := rfl
theorem whileGo_s {n : Nat} {c : AT} {x : AS} : whileGo c x (n + 1) ρ = (c ρ).thn (kWh c x n) := by
  show (c ρ).thn _ = _
  congr 1; funext z ρ1
  cases z with
  | false => rfl
  | true => show (match x ρ1 with | .nx ρ2 => whileGo c x n ρ2 | .ct ρ2 => whileGo c x n ρ2 | .bk ρ2 => .nx ρ2 | .rt d ρ2 => .rt d ρ2 | .exc e ρ2 => .exc e ρ2 | .bad => .bad) = (x ρ1).loop _; cases x ρ1 <;> rfl
theorem e_itL : aItL a ρ = (a ρ).bind kItL := rfl
theorem e_itT : aItT a ρ = (a ρ).bind kItT := rfl
theorem e_rng1 {q : AD} : aRng1 q ρ = (q ρ).bind kRng1 := rfl
theorem e_rng2 {q : AD} : aRng2 q ρ = (q ρ).bind kRng2 := rfl
theorem e_enum {q : AD} : aEnum q ρ = (q ρ).bind kEnum := rfl
theorem e_zip {q : AD} : aZip q ρ = (q ρ).bind kZip := rfl
theorem e_lc {vs : List Nat} {ai : AI} {gt : AG} {tt : AT} {te : AE} : aLc vs ai gt tt te ρ = (ai ρ).bind (kLc vs gt tt te) := by
  unfold aLc
  congr 1; funext ds ρ1
  unfold kLc
  cases vs.all fun v => plainS (sl ρ1 v) <;> rfl
theorem e_yes : aYes ρ = .ok true ρ := rfl
theorem bindO_some {γ : Type} {k : List Sl → Res γ} : bindO (some ρ) k = k ρ := rfl
theorem lcGo_nil {vs : List Nat} {gt : AG} {tt : AT} {te : AE} {acc : List PyData} : lcGo vs gt tt te [] ρ acc = .ok acc ρ := rfl
theorem lcGo_cons {vs : List Nat} {gt : AG} {tt : AT} {te : AE} {acc : List PyData} {d : PyData} {ds : List PyData} : lcGo vs gt tt te (d :: ds) ρ acc = bindO (gt d ρ) (kLc1 vs gt tt te ds acc) := by
  show (match gt d ρ with | none => Res.bad | some ρ1 => _) = _
  cases gt d ρ with
  | none => rfl
  | some ρ1 =>
    show (tt ρ1).nox.bind _ = (tt ρ1).nox.bind _
    congr 1; funext b ρ2
    cases b <;> rfl
theorem g_name {i : Nat} {d : PyData} : agName i d ρ = putS ρ i (.dat d) := rfl
theorem g_tup {n : Nat} {x : AGs} {ds : List PyData} (h : ds.length = n) : agTup n x (.tuple ds) ρ = x ds ρ := if_pos h
theorem g_lst {n : Nat} {x : AGs} {ds : List PyData} (h : ds.length = n) : agLst n x (.list ds) ρ = x ds ρ := if_pos h
theorem g_nil : agNil [] ρ = some ρ := rfl
theorem g_cons {x : AG} {y : AGs} {d : PyData} {ds : List PyData} : agCons x y (d :: ds) ρ = (x d ρ).bind (y ds) := rfl
theorem putS_0 {s : Sl} {r : List Sl} {x : Sl} (h : noPin s = true) : putS (s :: r) 0 x = some (x :: r) := by
  unfold putS
  rw [if_pos (by simp)]
  exact if_pos h
theorem putS_0n {r : List Sl} {x : Sl} : putS (.none :: r) 0 x = some (x :: r) := putS_0 rfl
theorem putS_0d {d : PyData} {r : List Sl} {x : Sl} : putS (.dat d :: r) 0 x = some (x :: r) := putS_0 rfl
theorem putS_0o {d : PyData} {r : List Sl} {x : Sl} : putS (.own d :: r) 0 x = some (x :: r) := putS_0 rfl
theorem putS_0j {o : Option PyData} {r : List Sl} {x : Sl} : putS (jk o :: r) 0 x = some (x :: r) := putS_0 (by cases o <;> rfl)
theorem plainS_j {o : Option PyData} : plainS (jk o) = true := by cases o <;> rfl
theorem jk_some {d : PyData} : Sl.dat d = jk (some d) := rfl
theorem g_tup2 {x : AGs} {a b : PyData} : agTup 2 x (.tuple [a, b]) ρ = x [a, b] ρ := rfl
theorem g_tup3 {x : AGs} {a b c : PyData} : agTup 3 x (.tuple [a, b, c]) ρ = x [a, b, c] ρ := rfl
theorem g_tup4 {x : AGs} {a b c d : PyData} : agTup 4 x (.tuple [a, b, c, d]) ρ = x [a, b, c, d] ρ := rfl
theorem g_lst2 {x : AGs} {a b : PyData} : agLst 2 x (.list [a, b]) ρ = x [a, b] ρ := rfl
theorem g_lst3 {x : AGs} {a b c : PyData} : agLst 3 x (.list [a, b, c]) ρ = x [a, b, c] ρ := rfl
theorem putS_s {s : Sl} {r : List Sl} {x : Sl} {i : Nat} : putS (s :: r) (i + 1) x = (putS r i x).map (s :: ·) := by
  unfold putS
  by_cases h : i < r.length
  · rw [if_pos h, if_pos (by simpa using h)]
    show (if noPin (sl r i) = true then some (s :: r.set i x) else none) = _
    by_cases c : noPin (sl r i) = true
    · rw [if_pos c, if_pos c]; rfl
    · rw [if_neg c, if_neg c]; rfl
  · rw [if_neg h, if_neg (by simpa using h)]; rfl
theorem kTup_le {ds : List PyData} (h : ds.length ≤ 1000) : kTup ds ρ = .ok (.tuple ds) ρ := if_pos h
theorem kLst_le {ds : List PyData} (h : ds.length ≤ 1000) : kLst ds ρ = .ok (.list ds) ρ := if_pos h
theorem kOwnL_le {ds : List PyData} {i : Nat} (h : ds.length ≤ 1000) : kOwnL i ds ρ = nxO (putS ρ i (.own (.list ds))) := if_pos h
theorem appB_le {ds : List PyData} {i : Nat} {d : PyData} (h : ds.length ≤ 10000) : appB i d ρ (.own (.list ds)) = .nx (ρ.set i (.own (.list (ds ++ [d])))) := if_pos h
theorem sAppT_le {n i : Nat} (h : n ≤ 1000000) : sAppT i ρ (.pin (.town n)) = .nx (ρ.set i (.pin (.town (n + 1)))) := if_pos h
theorem extB_le {ds zs : List PyData} {i : Nat} (h : ds.length + zs.length ≤ 100000) : extB i (.list zs) ρ (.own (.list ds)) = .nx (ρ.set i (.own (.list (ds ++ zs)))) := if_pos h
theorem kLc3_le {vs : List Nat} {gt : AG} {tt : AT} {te : AE} {ds acc : List PyData} {y : PyData} (h : acc.length ≤ 10000) : kLc3 vs gt tt te ds acc y ρ = lcGo vs gt tt te ds (wipeS ρ vs) (acc ++ [y]) := if_pos h
theorem kRng1_in {j : Int} (h : inR j = true) : kRng1 [.int j] ρ = .ok (rangeD 0 j.toNat) ρ := if_pos h
theorem kRng2_in {i j : Int} (h : inR i = true) (h2 : inR j = true) : kRng2 [.int i, .int j] ρ = .ok (rangeD i (j - i).toNat) ρ := if_pos ⟨h, h2⟩
theorem end_rt' {d : PyData} {ss : List Sl} : (SRes.rt d ρ).end ss = .ok d (pinsFrom ρ 0 ss) := rfl
theorem end_nx' {ss : List Sl} : (SRes.nx ρ).end ss = .ok .none (pinsFrom ρ 0 ss) := rfl
theorem end_exc' {e : Nat} {ss : List Sl} : (SRes.exc e ρ).end ss = .exc e (pinsFrom ρ 0 ss) := rfl
theorem e_run {n m : Nat} {x : AS} {ss : List Sl} : runF n m x ss = (x (ss ++ List.replicate (m - n) .none)).end ss := rfl
end
theorem kit_NoneType_int : kitB "NoneType" "int" = some false := by decide +kernel
theorem kit_NoneType_bool : kitB "NoneType" "bool" = some false := by decide +kernel
theorem kit_NoneType_tuple : kitB "NoneType" "tuple" = some false := by decide +kernel
theorem kit_NoneType_list : kitB "NoneType" "list" = some false := by decide +kernel
theorem kit_NoneType_str : kitB "NoneType" "str" = some false := by decide +kernel
theorem kit_bool_int : kitB "bool" "int" = some true := by decide +kernel
theorem kit_bool_bool : kitB "bool" "bool" = some true := by decide +kernel
theorem kit_bool_tuple : kitB "bool" "tuple" = some false := by decide +kernel
theorem kit_bool_list : kitB "bool" "list" = some false := by decide +kernel
theorem kit_bool_str : kitB "bool" "str" = some false := by decide +kernel
theorem kit_int_int : kitB "int" "int" = some true := by decide +kernel
theorem kit_int_bool : kitB "int" "bool" = some false := by decide +kernel
theorem kit_int_tuple : kitB "int" "tuple" = some false := by decide +kernel
theorem kit_int_list : kitB "int" "list" = some false := by decide +kernel
theorem kit_int_str : kitB "int" "str" = some false := by decide +kernel
theorem kit_str_int : kitB "str" "int" = some false := by decide +kernel
theorem kit_str_bool : kitB "str" "bool" = some false := by decide +kernel
theorem kit_str_tuple : kitB "str" "tuple" = some false := by decide +kernel
theorem kit_str_list : kitB "str" "list" = some false := by decide +kernel
theorem kit_str_str : kitB "str" "str" = some true := by decide +kernel
theorem kit_list_int : kitB "list" "int" = some false := by decide +kernel
theorem kit_list_bool : kitB "list" "bool" = some false := by decide +kernel
theorem kit_list_tuple : kitB "list" "tuple" = some false := by decide +kernel
theorem kit_list_list : kitB "list" "list" = some true := by decide +kernel
theorem kit_list_str : kitB "list" "str" = some false := by decide +kernel
theorem kit_tuple_int : kitB "tuple" "int" = some false := by decide +kernel
theorem kit_tuple_bool : kitB "tuple" "bool" = some false := by decide +kernel
theorem kit_tuple_tuple : kitB "tuple" "tuple" = some true := by decide +kernel
theorem kit_tuple_list : kitB "tuple" "list" = some false := by decide +kernel
theorem kit_tuple_str : kitB "tuple" "str" = some false := by decide +kernel
theorem kit_dict_int : kitB "dict" "int" = some false := by decide +kernel
theorem kit_dict_bool : kitB "dict" "bool" = some false := by decide +kernel
theorem kit_dict_tuple : kitB "dict" "tuple" = some false := by decide +kernel
theorem kit_dict_list : kitB "dict" "list" = some false := by decide +kernel
theorem kit_dict_str : kitB "dict" "str" = some false := by decide +kernel
end DL

/-! Data with a Lean type; lines by their values. -/
namespace DL
open PySem PySem.Spec PyProof.Rows L2

class Dat (α : Type) [DecidableEq α] where
  d : α → PyData
  ok : ∀ a, (d a).canLay0 = true
  eqv : ∀ a b, PyData.eqv (d a) (d b) = decide (a = b)
  dep : Nat
  dep_le : ∀ a, (d a).depth ≤ dep
theorem dec_beq {α : Type} [BEq α] [LawfulBEq α] [DecidableEq α] (a b : α) : (a == b) = decide (a = b) := by
  rw [Bool.eq_iff_iff, beq_iff_eq, decide_eq_true_eq]
instance : Dat Int := ⟨.int, fun _ => rfl, fun a b => by simp only [PyData.eqv]; exact dec_beq a b, 0, fun _ => Nat.le_refl _⟩
instance : Dat Bool := ⟨.bool, fun _ => rfl, fun a b => by simp only [PyData.eqv]; exact dec_beq a b, 0, fun _ => Nat.le_refl _⟩
instance : Dat Unit := ⟨fun _ => .none, fun _ => rfl, fun _ _ => by simp only [PyData.eqv]; rfl, 0, fun _ => Nat.le_refl _⟩
/-- a tuple of any length of one type -/
structure Tp (α : Type) where
  l : List α
  deriving DecidableEq
section
variable {α β γ : Type} [DecidableEq α] [Dat α] [DecidableEq β] [Dat β] [DecidableEq γ] [Dat γ]
theorem all_ok : ∀ xs : List α, PyData.canLayAll0 (xs.map Dat.d) = true
  | [] => rfl
  | x :: xs => by rw [List.map_cons, PyData.canLayAll0, Dat.ok x, all_ok xs]; rfl
theorem all_dep : ∀ xs : List α, PyData.depthAll (xs.map Dat.d) ≤ Dat.dep α
  | [] => Nat.zero_le _
  | x :: xs => by
    rw [List.map_cons, PyData.depthAll]
    exact Nat.max_le.mpr ⟨Dat.dep_le x, all_dep xs⟩
theorem all_eqv : ∀ xs ys : List α, PyData.eqvAll (xs.map Dat.d) (ys.map Dat.d) = decide (xs = ys)
  | [], [] => by simp only [List.map_nil, PyData.eqvAll, decide_true]
  | [], _ :: _ => by simp [PyData.eqvAll]
  | _ :: _, [] => by simp [PyData.eqvAll]
  | x :: xs, y :: ys => by
    rw [List.map_cons, List.map_cons, PyData.eqvAll, Dat.eqv x y, all_eqv xs ys, ← Bool.decide_and]
    exact decide_eq_decide.mpr (by rw [List.cons.injEq])
instance : Dat (List α) where
  d xs := .list (xs.map Dat.d)
  ok xs := by simp only [PyData.canLay0]; exact all_ok xs
  eqv xs ys := by simp only [PyData.eqv]; exact all_eqv xs ys
  dep := Dat.dep α + 1
  dep_le xs := by simp only [PyData.depth]; exact Nat.succ_le_succ (all_dep xs)
instance : Dat (Tp α) where
  d t := .tuple (t.l.map Dat.d)
  ok t := by simp only [PyData.canLay0]; exact all_ok t.l
  eqv t u := by
    simp only [PyData.eqv]
    rw [all_eqv]
    exact decide_eq_decide.mpr ⟨fun e => by cases t; cases u; exact congrArg Tp.mk e, fun e => by rw [e]⟩
  dep := Dat.dep α + 1
  dep_le t := by simp only [PyData.depth]; exact Nat.succ_le_succ (all_dep t.l)
instance : Dat (α × β) where
  d p := .tuple [Dat.d p.1, Dat.d p.2]
  ok p := by simp only [PyData.canLay0, PyData.canLayAll0, Dat.ok, Bool.and_self]
  eqv p q := by
    simp only [PyData.eqv, PyData.eqvAll]
    rw [Dat.eqv, Dat.eqv, Bool.and_true, ← Bool.decide_and]
    exact decide_eq_decide.mpr ⟨fun e => Prod.ext e.1 e.2, fun e => by rw [e]; exact ⟨rfl, rfl⟩⟩
  dep := max (Dat.dep α) (Dat.dep β) + 1
  dep_le p := by
    simp only [PyData.depth, PyData.depthAll]
    exact Nat.succ_le_succ (Nat.max_le.mpr ⟨Nat.le_trans (Dat.dep_le p.1) (Nat.le_max_left _ _), Nat.max_le.mpr ⟨Nat.le_trans (Dat.dep_le p.2) (Nat.le_max_right _ _), Nat.zero_le _⟩⟩)
/-- a tuple of three -/
structure T3 (α β γ : Type) where
  a : α
  b : β
  c : γ
  deriving DecidableEq
instance : Dat (T3 α β γ) where
  d p := .tuple [Dat.d p.a, Dat.d p.b, Dat.d p.c]
  ok p := by simp only [PyData.canLay0, PyData.canLayAll0, Dat.ok, Bool.and_self]
  eqv p q := by
    simp only [PyData.eqv, PyData.eqvAll]
    rw [Dat.eqv, Dat.eqv, Dat.eqv, Bool.and_true, ← Bool.decide_and, ← Bool.decide_and]
    exact decide_eq_decide.mpr ⟨fun ⟨e1, e2, e3⟩ => by cases p; cases q; simp only at e1 e2 e3; rw [e1, e2, e3], fun e => by rw [e]; exact ⟨rfl, rfl, rfl⟩⟩
  dep := max (Dat.dep α) (max (Dat.dep β) (Dat.dep γ)) + 1
  dep_le p := by
    simp only [PyData.depth, PyData.depthAll]
    have h1 := Dat.dep_le p.a
    have h2 := Dat.dep_le p.b
    have h3 := Dat.dep_le p.c
    omega
theorem shaped_dat (a : α) (h : Dat.dep α ≤ 64 := by decide) : SeqAt.shaped (Dat.d a) = true := by
  unfold SeqAt.shaped
  rw [Bool.and_eq_true]
  exact ⟨Dat.ok a, decide_eq_true (Nat.le_trans (Dat.dep_le a) h)⟩
/-- == of two of one type -/
theorem oEq_dat (a b : α) (h : Dat.dep α ≤ 64 := by decide) : oEq (Dat.d a) (Dat.d b) = some (.bool (decide (a = b))) := by
  unfold oEq
  rw [if_pos ⟨shaped_dat a h, shaped_dat b h⟩, Dat.eqv]
theorem oNe_dat (a b : α) (h : Dat.dep α ≤ 64 := by decide) : oNe (Dat.d a) (Dat.d b) = some (.bool (!decide (a = b))) := by
  unfold oNe
  rw [if_pos ⟨shaped_dat a h, shaped_dat b h⟩, Dat.eqv]
end
theorem oEq_int (a b : Int) : oEq (.int a) (.int b) = some (.bool (decide (a = b))) := oEq_dat a b
theorem oNe_int (a b : Int) : oNe (.int a) (.int b) = some (.bool (!decide (a = b))) := oNe_dat a b
/-- a list of ints -/
abbrev il (ns : List Int) : PyData := .list (ns.map .int)
theorem oEq_il (a b : List Int) : oEq (il a) (il b) = some (.bool (decide (a = b))) := oEq_dat a b
theorem oNe_il (a b : List Int) : oNe (il a) (il b) = some (.bool (!decide (a = b))) := oNe_dat a b

/-! ### lines -/
/-- the steps behind the place k - 1, whose value is p -/
def st : Nat → Int → List Int → List (Int × Int)
  | _, _, [] => []
  | k, p, v :: r => if v = p then st (k + 1) p r else ((k : Int), v) :: st (k + 1) v r
def stp : List Int → List (Int × Int)
  | [] => []
  | v :: r => (0, v) :: st 1 v r
abbrev stD (s : Int × Int) : PyData := .tuple [.int s.1, .int s.2]
abbrev lineD (vs : List Int) : PyData := .tuple [.int (vs.length : Int), .tuple ((stp vs).map stD)]
def lineT (vs : List Int) : Int × Tp (Int × Int) := ((vs.length : Int), ⟨stp vs⟩)
theorem lineD_eq (vs : List Int) : lineD vs = Dat.d (lineT vs) := rfl
theorem st_inj : ∀ (k : Nat) (p : Int) (a b : List Int), a.length = b.length → st k p a = st k p b → a = b
  | _, _, [], [], _, _ => rfl
  | _, _, [], _ :: _, h, _ => by simp at h
  | _, _, _ :: _, [], h, _ => by simp at h
  | k, p, x :: a, y :: b, h, e => by
    have h' : a.length = b.length := by simpa using h
    have low : ∀ (j : Nat) (p : Int) (l : List Int) (q : Int × Int), q ∈ st j p l → (j : Int) ≤ q.1 := by
      intro j p l
      induction l generalizing j p with
      | nil => intro q hq; cases hq
      | cons v r ih =>
        intro q hq
        unfold st at hq
        split at hq
        · have := ih (j + 1) p q hq; omega
        · rcases List.mem_cons.mp hq with rfl | hq
          · exact Int.le_refl _
          · have := ih (j + 1) v q hq; omega
    unfold st at e
    split at e
    · split at e
      · rename_i e1 e2
        rw [e1, e2, st_inj (k + 1) p a b h' e]
      · have := low (k + 1) p a ((k : Int), y) (by rw [e]; exact List.mem_cons_self)
        simp only at this; omega
    · split at e
      · have := low (k + 1) p b ((k : Int), x) (by rw [← e]; exact List.mem_cons_self)
        simp only at this; omega
      · injection e with e1 e2
        injection e1 with _ e3
        subst e3
        rw [st_inj (k + 1) x a b h' e2]
theorem lineT_inj {a b : List Int} (h : lineT a = lineT b) : a = b := by
  unfold lineT at h
  injection h with h1 h2
  injection h2 with h2
  have hl : a.length = b.length := by omega
  cases a with
  | nil => cases b with
    | nil => rfl
    | cons y b => simp at hl
  | cons x a => cases b with
    | nil => simp at hl
    | cons y b =>
      have h2 : ((0 : Int), x) :: st 1 x a = (0, y) :: st 1 y b := h2
      injection h2 with e1 e2
      injection e1 with _ e3
      subst e3
      rw [st_inj 1 x a b (by simpa using hl) e2]
theorem oEq_line (a b : List Int) : oEq (lineD a) (lineD b) = some (.bool (decide (a = b))) := by
  rw [lineD_eq, lineD_eq, oEq_dat]
  exact congrArg (fun x => some (PyData.bool x)) (decide_eq_decide.mpr ⟨lineT_inj, fun e => by rw [e]⟩)
theorem oNe_line (a b : List Int) : oNe (lineD a) (lineD b) = some (.bool (!decide (a = b))) := by
  rw [lineD_eq, lineD_eq, oNe_dat]
  exact congrArg (fun x => some (PyData.bool (!x))) (decide_eq_decide.mpr ⟨lineT_inj, fun e => by rw [e]⟩)
/-- a line that is one: 1 to 60 values within bounds -/
structure Ln (vs : List Int) : Prop where
  pos : 1 ≤ vs.length
  le : vs.length ≤ 60
  all : ∀ v ∈ vs, -999 ≤ v ∧ v ≤ 999
theorem Ln.ne {vs : List Int} (h : Ln vs) : vs ≠ [] := fun e => by have := h.pos; rw [e] at this; simp at this
theorem rangeD_succ (lo : Int) (n : Nat) : rangeD lo (n + 1) = rangeD lo n ++ [.int (lo + n)] := by
  unfold rangeD
  rw [List.range_succ, List.map_append]; rfl
theorem rangeD_cons (lo : Int) (n : Nat) : rangeD lo (n + 1) = .int lo :: rangeD (lo + 1) n := by
  unfold rangeD
  rw [List.range_succ_eq_map, List.map_cons, List.map_map]
  congr 1
  · simp
  · refine List.map_congr_left fun k _ => ?_
    show PyData.int (lo + ((k + 1 : Nat) : Int)) = .int (lo + 1 + k)
    congr 1; omega
theorem st_snoc : ∀ (k : Nat) (p : Int) (l : List Int) (v : Int), DL.st k p (l ++ [v]) = DL.st k p l ++ (if v = (l.getLast?).getD p then [] else [(((k + l.length : Nat) : Int), v)])
  | k, p, [], v => by
    show (if v = p then DL.st (k + 1) p [] else ((k : Int), v) :: DL.st (k + 1) v []) = [] ++ _
    show (if v = p then [] else [((k : Int), v)]) = [] ++ (if v = p then [] else [((k : Int), v)])
    rw [List.nil_append]
  | k, p, x :: l, v => by
    have e : ((x :: l).getLast?).getD p = (l.getLast?).getD x := by
      cases l with
      | nil => rfl
      | cons y r => rw [List.getLast?_cons_cons]; rw [List.getLast?_eq_some_getLast (List.cons_ne_nil y r)]; rfl
    have hl : k + (x :: l).length = k + 1 + l.length := by rw [List.length_cons]; omega
    rw [e, hl]
    show (if x = p then DL.st (k + 1) p (l ++ [v]) else ((k : Int), x) :: DL.st (k + 1) x (l ++ [v])) = (if x = p then DL.st (k + 1) p l else ((k : Int), x) :: DL.st (k + 1) x l) ++ _
    by_cases c : x = p
    · subst c
      rw [if_pos rfl, if_pos rfl]
      exact st_snoc (k + 1) x l v
    · rw [if_neg c, if_neg c, st_snoc (k + 1) x l v]; rfl
theorem stp_snoc (l : List Int) (v : Int) : stp (l ++ [v]) = stp l ++ (if l.getLast? = some v then [] else [((l.length : Int), v)]) := by
  cases l with
  | nil => rfl
  | cons x r =>
    show (0, x) :: DL.st 1 x (r ++ [v]) = (0, x) :: DL.st 1 x r ++ _
    have e : (x :: r).getLast? = some ((r.getLast?).getD x) := by
      cases r with
      | nil => rfl
      | cons y r => rw [List.getLast?_cons_cons, List.getLast?_eq_some_getLast (List.cons_ne_nil y r)]; rfl
    rw [st_snoc, e, List.length_cons, List.cons_append]
    by_cases c : v = (r.getLast?).getD x
    · rw [if_pos c, if_pos (by rw [c])]
    · rw [if_neg c, if_neg (by intro q; exact c (Option.some.inj q).symm), Nat.add_comm]
theorem stp_last : ∀ (l : List Int) (v : Int), l.getLast? = some v → ∃ (i : List (Int × Int)) (j : Int), stp l = i ++ [(j, v)] := by
  intro l
  suffices h : ∀ (n : Nat) (l : List Int), l.length = n → ∀ v, l.getLast? = some v → ∃ (i : List (Int × Int)) (j : Int), stp l = i ++ [(j, v)] from fun v => h _ l rfl v
  intro n
  induction n with
  | zero =>
    intro l hl v h
    have : l = [] := List.length_eq_zero_iff.mp hl
    subst this; cases h
  | succ n ih =>
    intro l hl v h
    rcases List.eq_nil_or_concat l with rfl | ⟨a, w, rfl⟩
    · cases h
    · rw [List.concat_eq_append, List.getLast?_append] at h
      have hw : w = v := by simpa using h
      subst hw
      rw [List.concat_eq_append, stp_snoc]
      by_cases c : a.getLast? = some w
      · rw [if_pos c, List.append_nil]
        exact ih a (by rw [List.concat_eq_append, List.length_append, List.length_singleton] at hl; omega) w c
      · rw [if_neg c]; exact ⟨_, _, rfl⟩
/-! ### loops over what is made of a list -/
section
variable {β : Type} {vs : List Nat} {gt : AG} {tt : AT} {te : AE} {x : AS}
theorem lc_fm (g f : β → PyData) (p : β → Bool) {ρ : List Sl} : ∀ (src : List β) (acc : List PyData), (∀ b ∈ src, ∀ rest acc, acc.length ≤ 10000 → lcGo vs gt tt te (g b :: rest) ρ acc = lcGo vs gt tt te rest ρ (if p b = true then acc ++ [f b] else acc)) →
    acc.length + src.length ≤ 10000 → lcGo vs gt tt te (src.map g) ρ acc = .ok (acc ++ (src.filter p).map f) ρ
  | [], acc, _, _ => by show Res.ok acc ρ = .ok (acc ++ []) ρ; rw [List.append_nil]
  | b :: src, acc, h, hl => by
    rw [List.length_cons] at hl
    rw [List.map_cons, h b List.mem_cons_self _ acc (by omega)]
    by_cases c : p b = true
    · rw [if_pos c, lc_fm g f p src (acc ++ [f b]) (fun b' hb => h b' (List.mem_cons_of_mem _ hb)) (by rw [List.length_append, List.length_singleton]; omega), List.filter_cons_of_pos c, List.map_cons, List.append_assoc]; rfl
    · rw [if_neg c, lc_fm g f p src acc (fun b' hb => h b' (List.mem_cons_of_mem _ hb)) (by omega), List.filter_cons_of_neg c]
theorem lc_map (g f : β → PyData) {ρ : List Sl} (src : List β) (h : ∀ b ∈ src, ∀ rest acc, acc.length ≤ 10000 → lcGo vs gt tt te (g b :: rest) ρ acc = lcGo vs gt tt te rest ρ (acc ++ [f b])) (hl : src.length ≤ 10000) :
    lcGo vs gt tt te (src.map g) ρ [] = .ok (src.map f) ρ := by
  have := lc_fm (vs := vs) (gt := gt) (tt := tt) (te := te) g f (fun _ => true) (ρ := ρ) src [] (fun b hb rest acc ha => by rw [if_pos rfl]; exact h b hb rest acc ha) (by simpa using hl)
  rw [this, List.filter_eq_self.mpr (fun _ _ => rfl)]; rfl
theorem for_inv (g : β → PyData) (P : List β → List Sl → Prop) : ∀ (src pre : List β) (ρ : List Sl), (∀ a b c, pre ++ src = a ++ b :: c → ∀ ρ, P a ρ → ∃ ρ', (runO (gt (g b) ρ) x = .nx ρ' ∨ runO (gt (g b) ρ) x = .ct ρ') ∧ P (a ++ [b]) ρ') → P pre ρ →
    ∃ ρ', forGo gt x (src.map g) ρ = .nx ρ' ∧ P (pre ++ src) ρ'
  | [], pre, ρ, _, h => ⟨ρ, rfl, by rw [List.append_nil]; exact h⟩
  | b :: src, pre, ρ, hs, h => by
    obtain ⟨ρ1, h1, h2⟩ := hs pre b src rfl ρ h
    obtain ⟨ρ2, h3, h4⟩ := for_inv g P src (pre ++ [b]) ρ1 (fun a b' c e => hs a b' c (by rw [← e, List.append_assoc]; rfl)) h2
    refine ⟨ρ2, ?_, by rw [List.append_assoc] at h4; exact h4⟩
    rw [List.map_cons, forGo_cons]
    rcases h1 with h1 | h1 <;> rw [h1] <;> exact h3
/-- a loop in its place: Q says where it stands -/
theorem for_run (Q : SRes → Prop) (g : β → PyData) (P : List β → List Sl → Prop) {src : List β} {ρ : List Sl} (h0 : P [] ρ) (hs : ∀ a b c, src = a ++ b :: c → ∀ ρ, P a ρ → ∃ ρ', (runO (gt (g b) ρ) x = .nx ρ' ∨ runO (gt (g b) ρ) x = .ct ρ') ∧ P (a ++ [b]) ρ')
    (k : ∀ ρ', P src ρ' → Q (.nx ρ')) : Q (forGo gt x (src.map g) ρ) := by
  obtain ⟨ρ', h1, h2⟩ := for_inv g P src [] ρ hs h0
  rw [h1]; exact k ρ' h2
/-- from the loop's start -/
theorem for_inv0 (g : β → PyData) (P : List β → List Sl → Prop) {src : List β} {ρ : List Sl} (h0 : P [] ρ) (hs : ∀ a b c, src = a ++ b :: c → ∀ ρ, P a ρ → ∃ ρ', (runO (gt (g b) ρ) x = .nx ρ' ∨ runO (gt (g b) ρ) x = .ct ρ') ∧ P (a ++ [b]) ρ') :
    ∃ ρ', forGo gt x (src.map g) ρ = .nx ρ' ∧ P src ρ' := for_inv g P src [] ρ hs h0
end
theorem zipD_map {β γ : Type} (g : β → PyData) (f : γ → PyData) : ∀ (l : List β) (m : List γ), zipD (l.map g) (m.map f) = (l.zip m).map fun p => .tuple [g p.1, f p.2]
  | [], m => by cases m <;> rfl
  | a :: l, [] => rfl
  | a :: l, b :: m => by
    show PyData.tuple [g a, f b] :: zipD (l.map g) (m.map f) = _
    rw [zipD_map g f l m]; rfl
theorem enumD_map {β : Type} (g : β → PyData) : ∀ (l : List β) (k : Nat), enumD k (l.map g) = (l.zipIdx k).map fun p => .tuple [.int (p.2 : Int), g p.1]
  | [], k => rfl
  | a :: l, k => by
    show PyData.tuple [.int (k : Int), g a] :: enumD (k + 1) (l.map g) = _
    rw [enumD_map g l (k + 1)]; rfl
theorem idx_0 (a : PyData) (r : List PyData) : oIdx (.tuple (a :: r)) (.int 0) = some a := atI_nat (j := 0) rfl
theorem idx_1 (a b : PyData) (r : List PyData) : oIdx (.tuple (a :: b :: r)) (.int 1) = some b := atI_nat (j := 1) rfl
theorem idx_2 (a b c : PyData) (r : List PyData) : oIdx (.tuple (a :: b :: c :: r)) (.int 2) = some c := atI_nat (j := 2) rfl
theorem idx_3 (a b c e : PyData) (r : List PyData) : oIdx (.tuple (a :: b :: c :: e :: r)) (.int 3) = some e := atI_nat (j := 3) rfl
theorem idx_l0 (a : PyData) (r : List PyData) : oIdx (.list (a :: r)) (.int 0) = some a := atI_nat (j := 0) rfl
theorem idx_last (a : PyData) (r : List PyData) : oIdx (.list (r ++ [a])) (.int (-1)) = some a := atI_last _ _
theorem idx_lastT (a : PyData) (r : List PyData) : oIdx (.tuple (r ++ [a])) (.int (-1)) = some a := atI_last _ _
theorem cut_1 {α : Type} (l : List α) : cutG l (some 1) none = l.tail := by
  unfold cutG HT.sIx
  cases l with
  | nil => rfl
  | cons a r => simp [show min 1 (r.length + 1) = 1 by omega]
theorem map_tail' {α β : Type} (f : α → β) (l : List α) : (l.map f).tail = l.tail.map f := by cases l <;> rfl
theorem zip_at {β : Type} : ∀ (a : List (β × Nat)) (l : List β) (k : Nat) (b : β × Nat) (c : List (β × Nat)), l.zipIdx k = a ++ b :: c → b.2 = k + a.length
  | [], [], k, b, c, h => by cases h
  | [], x :: l, k, b, c, h => by
    rw [List.zipIdx_cons] at h
    have h : (x, k) :: l.zipIdx (k + 1) = b :: c := h
    injection h with h1 h2
    rw [← h1]; rfl
  | y :: a, [], k, b, c, h => by cases h
  | y :: a, x :: l, k, b, c, h => by
    rw [List.zipIdx_cons] at h
    have h : (x, k) :: l.zipIdx (k + 1) = y :: (a ++ b :: c) := h
    injection h with h1 h2
    rw [zip_at a l (k + 1) b c h2, List.length_cons]; omega
theorem zip_fst {β : Type} (l : List β) (k : Nat) : (l.zipIdx k).map (·.1) = l := by simp
theorem cz0 : ((0 : Nat) : Int) = 0 := rfl
theorem cz1 : ((1 : Nat) : Int) = 1 := rfl
theorem cz2 : ((2 : Nat) : Int) = 2 := rfl
theorem cz3 : ((3 : Nat) : Int) = 3 := rfl
theorem cz4 : ((4 : Nat) : Int) = 4 := rfl
theorem cz5 : ((5 : Nat) : Int) = 5 := rfl
theorem cz6 : ((6 : Nat) : Int) = 6 := rfl
theorem cz7 : ((7 : Nat) : Int) = 7 := rfl
theorem cz8 : ((8 : Nat) : Int) = 8 := rfl
theorem cz9 : ((9 : Nat) : Int) = 9 := rfl
theorem cz10 : ((10 : Nat) : Int) = 10 := rfl
theorem cz11 : ((11 : Nat) : Int) = 11 := rfl
theorem cz12 : ((12 : Nat) : Int) = 12 := rfl
theorem cz13 : ((13 : Nat) : Int) = 13 := rfl
theorem cz14 : ((14 : Nat) : Int) = 14 := rfl
theorem cz15 : ((15 : Nat) : Int) = 15 := rfl
theorem cz16 : ((16 : Nat) : Int) = 16 := rfl
theorem cz17 : ((17 : Nat) : Int) = 17 := rfl
end DL

/-! Expressions at ints, lists and tuples. -/
namespace DL
open PySem PySem.Spec PyProof.Rows L2
theorem line16 {n : Nat} (h : n ≤ 1000000) : n ≤ sizeLine := Nat.le_trans h (by decide)
theorem oAdd_int {i j : Int} : oAdd (.int i) (.int j) = some (.int (i + j)) := rfl
theorem oAdd_l {a b : List PyData} (h : a.length + b.length ≤ 1000000) : oAdd (.list a) (.list b) = some (.list (a ++ b)) := if_pos (line16 h)
theorem oAdd_t {a b : List PyData} (h : a.length + b.length ≤ 1000000) : oAdd (.tuple a) (.tuple b) = some (.tuple (a ++ b)) := if_pos (line16 h)
theorem oSub_int {i j : Int} : oSub (.int i) (.int j) = some (.int (i - j)) := rfl
theorem small_of {i : Int} (h : -(2 ^ 62) ≤ i ∧ i < 2 ^ 62) : small64 i = true := by
  unfold small64; simp only [decide_eq_true_eq, Bool.and_eq_true]; omega
theorem oMul_int {i j : Int} (h : -(2 ^ 62) ≤ i ∧ i < 2 ^ 62) : oMul (.int i) (.int j) = some (.int (i * j)) := by
  show (if _ then _ else _) = _
  rw [if_pos (by rw [small_of h]; rfl)]
theorem oMul_intR {i j : Int} (h : -(2 ^ 62) ≤ j ∧ j < 2 ^ 62) : oMul (.int i) (.int j) = some (.int (i * j)) := by
  show (if _ then _ else _) = _
  rw [if_pos (by rw [small_of h, Bool.or_true])]
theorem oMul_rep {x : PyData} {d : Int} (h0 : -1000000 ≤ d) (h : d ≤ 1000000) : oMul (.list [x]) (.int d) = some (.list (List.replicate d.toNat x)) := by
  show (if _ then _ else _) = _
  rw [if_pos ⟨by omega, by omega, line16 (by show 1 * d.toNat ≤ 1000000; omega)⟩, List.flatten_replicate_singleton]
theorem oMod_int {i j : Int} (h : 0 < j) : oMod (.int i) (.int j) = some (.int (i.fmod j)) := if_pos (by omega)
theorem oMod_intN {i j : Int} (h : j ≠ 0) : oMod (.int i) (.int j) = some (.int (i.fmod j)) := if_pos h
theorem oPow_5 {i : Int} (h : 0 ≤ i ∧ i < 2 ^ 63) : oPow (.int i) (.int 5) = some (.int (i ^ 5)) := if_pos ⟨by omega, by omega, by omega⟩
theorem oMax2_int {i j : Int} : oMax2 [.int i, .int j] = some (.int (max i j)) := rfl
theorem oMin2_int {i j : Int} : oMin2 [.int i, .int j] = some (.int (min i j)) := rfl
theorem oAbs_int {i : Int} : oAbs [.int i] = some (.int i.natAbs) := by
  show some (PyData.int _) = _
  congr 2; split <;> omega
theorem oLen_l {a : List PyData} : oLen [.list a] = some (.int a.length) := rfl
theorem oLen_t {a : List PyData} : oLen [.tuple a] = some (.int a.length) := rfl
theorem oIdx_l {a : List PyData} {n : Nat} (h : n < a.length) : oIdx (.list a) (.int n) = some a[n] := atI_nat (List.getElem?_eq_getElem h)
theorem oIdx_t {a : List PyData} {n : Nat} (h : n < a.length) : oIdx (.tuple a) (.int n) = some a[n] := atI_nat (List.getElem?_eq_getElem h)
/-- the value at a place -/
def at' (l : List Int) (i : Int) : Int := l.getD i.toNat 0
theorem oIdx_at {l : List Int} {i : Int} (h0 : 0 ≤ i) (h : i < l.length) : oIdx (il l) (.int i) = some (.int (at' l i)) := by
  obtain ⟨n, rfl⟩ := Int.eq_ofNat_of_zero_le h0
  have hn : n < l.length := by omega
  rw [oIdx_l (by rw [List.length_map]; exact hn), List.getElem_map]
  unfold at'
  rw [Int.toNat_natCast, List.getD_eq_getElem?_getD, List.getElem?_eq_getElem hn]; rfl
theorem at_mem {l : List Int} {i : Int} (h0 : 0 ≤ i) (h : i < l.length) : at' l i ∈ l := by
  obtain ⟨n, rfl⟩ := Int.eq_ofNat_of_zero_le h0
  have hn : n < l.length := by omega
  unfold at'
  rw [Int.toNat_natCast, List.getD_eq_getElem?_getD, List.getElem?_eq_getElem hn]
  exact List.getElem_mem hn
theorem cut_to {α : Type} (l : List α) (n : Nat) : cutG l none (some (n : Int)) = l.take n := by
  unfold cutG
  rw [HT.sIx_none, HT.sIx_nat, List.drop_zero, Nat.sub_zero]
  rw [← List.take_take, List.take_length]
theorem cut_from {α : Type} (l : List α) (n : Nat) : cutG l (some (n : Int)) none = l.drop n := by
  unfold cutG
  rw [HT.sIx_none, HT.sIx_nat]
  rw [List.take_of_length_le (by rw [List.length_drop]; omega)]
  by_cases h : n ≤ l.length
  · rw [Nat.min_eq_left h]
  · rw [Nat.min_eq_right (by omega), List.drop_of_length_le (Nat.le_refl _), List.drop_of_length_le (by omega)]
theorem sl_l {a : List PyData} {lo hi : Option Int} : oSl lo hi (.list a) = some (.list (cutG a lo hi)) := rfl
theorem sl_t {a : List PyData} {lo hi : Option Int} : oSl lo hi (.tuple a) = some (.tuple (cutG a lo hi)) := rfl
theorem seqD_l {a : List PyData} : seqD (.list a) = some a := rfl
theorem seqD_t {a : List PyData} : seqD (.tuple a) = some a := rfl
theorem kRng1_le {j : Int} {ρ : List Sl} (h0 : -1000000 ≤ j) (h : j ≤ 1000000) : kRng1 [.int j] ρ = .ok (rangeD 0 j.toNat) ρ := kRng1_in (by unfold inR; simp only [decide_eq_true_eq, Bool.and_eq_true]; omega)
theorem kRng2_le {i j : Int} {ρ : List Sl} (h0 : -1000000 ≤ i ∧ i ≤ 1000000) (h : -1000000 ≤ j ∧ j ≤ 1000000) : kRng2 [.int i, .int j] ρ = .ok (rangeD i (j - i).toNat) ρ := kRng2_in (by unfold inR; simp only [decide_eq_true_eq, Bool.and_eq_true]; omega) (by unfold inR; simp only [decide_eq_true_eq, Bool.and_eq_true]; omega)
/-- the ints of a range -/
def rng (lo : Int) (n : Nat) : List Int := (List.range n).map fun (k : Nat) => lo + k
theorem rangeD_eq {lo : Int} {n : Nat} : rangeD lo n = (rng lo n).map .int := by unfold rangeD rng; rw [List.map_map]; rfl
theorem rng_mem {lo : Int} {n : Nat} {i : Int} : i ∈ rng lo n ↔ lo ≤ i ∧ i < lo + n := by
  unfold rng
  rw [List.mem_map]
  constructor
  · rintro ⟨k, h, rfl⟩; have := List.mem_range.mp h; omega
  · rintro ⟨h1, h2⟩; exact ⟨(i - lo).toNat, List.mem_range.mpr (by omega), by omega⟩
theorem rng_len {lo : Int} {n : Nat} : (rng lo n).length = n := by unfold rng; rw [List.length_map, List.length_range]
theorem rng_cons {lo : Int} {n : Nat} : rng lo (n + 1) = lo :: rng (lo + 1) n := by
  unfold rng
  rw [List.range_succ_eq_map, List.map_cons, List.map_map]
  congr 1
  · simp
  · refine List.map_congr_left fun k _ => ?_
    show lo + ((k + 1 : Nat) : Int) = lo + 1 + k
    omega
theorem rng_snoc {lo : Int} {n : Nat} : rng lo (n + 1) = rng lo n ++ [lo + n] := by
  unfold rng
  rw [List.range_succ, List.map_append]; rfl
theorem oSum_il {ns : List Int} : oSum [il ns] = some (.int ns.sum) := by
  show (dints _).bind _ = _
  rw [dints_map]; rfl
theorem oMax_il {ns : List Int} (h : ns ≠ []) : oMax [il ns] = some (.int (maxL ns)) := by
  show (dints _).bind _ = _
  rw [dints_map]; exact if_neg h
theorem oMin_il {ns : List Int} (h : ns ≠ []) : oMin [il ns] = some (.int (minL ns)) := by
  show (dints _).bind _ = _
  rw [dints_map]; exact if_neg h
theorem oSorted_il {ns : List Int} : oSorted [il ns] = some (il (sortI ns)) := by
  show (dints _).bind _ = _
  rw [dints_map]; rfl
section
variable {γ : Type} {a b : List Sl → γ} {ρ : List Sl}
theorem kPick_t : kPick a b true ρ = a ρ := rfl
theorem kPick_f : kPick a b false ρ = b ρ := rfl
end
/-- a while loop in its place -/
theorem wh_run (Q : SRes → Prop) (P : Nat → List Sl → Prop) {c : AT} {x : AS} (h0 : ∀ ρ, ¬ P 0 ρ) (hs : ∀ k ρ, P (k + 1) ρ → (∃ ρ1, c ρ = .ok false ρ1 ∧ Q (.nx ρ1)) ∨ ∃ ρ1 ρ2, c ρ = .ok true ρ1 ∧ x ρ1 = .nx ρ2 ∧ P k ρ2) :
    ∀ (n : Nat) (ρ : List Sl), P n ρ → Q (whileGo c x n ρ)
  | 0, ρ, h => (h0 ρ h).elim
  | n + 1, ρ, h => by
    rw [whileGo_s]
    rcases hs n ρ h with ⟨ρ1, h1, h2⟩ | ⟨ρ1, ρ2, h1, h2, h3⟩
    · rw [h1]; exact h2
    · rw [h1]
      show Q ((x ρ1).loop _)
      rw [h2]
      exact wh_run Q P h0 hs n ρ2 h3
theorem mod_in {i j : Int} (h : 0 < j) : 0 ≤ i.fmod j ∧ i.fmod j < j := ⟨Int.fmod_nonneg_of_pos _ h, Int.fmod_lt_of_pos _ h⟩
theorem ixN_last {n : Nat} : ixN (n + 1) (-1) = some n := by
  unfold ixN
  rw [if_neg (by decide), if_pos (by omega)]
  congr 1; omega
theorem set_last {α : Type} {i : List α} {x d : α} : (i ++ [x]).set i.length d = i ++ [d] := by
  rw [List.set_append, if_neg (Nat.lt_irrefl _), Nat.sub_self]; rfl
theorem set_lastM {α β : Type} {f : β → α} {i : List β} {x d : α} : (i.map f ++ [x]).set i.length d = i.map f ++ [d] := by
  have := set_last (i := i.map f) (x := x) (d := d)
  rw [List.length_map] at this; exact this
theorem plainS_n : plainS .none = true := rfl
theorem plainS_d {d : PyData} : plainS (.dat d) = true := rfl
end DL

/-! Methods of data with one argument. -/
namespace DL
open PySem PySem.Spec PyProof.Rows L2
def isLst : D → Bool
  | .list _ => true
  | _ => false
/-- a method of a list, asked with one argument -/
def aMtL (f : D → D → Option D) (a b : AE) : AE := fun ρ => (a ρ).bind fun d1 ρ1 => if isLst d1 = true then (b ρ1).bind fun d2 ρ2 => lift (f d1 d2) ρ2 else .bad
section
variable {X : Cx} {g : G} {E : EX} {K : Fr}
theorem se_mtL {r : V → List V → Hp → VK → Prop} {f : D → D → Option D} {ta tb : TE} {a b : AE} (hr : RS g (fun x y H Q => r x [y] H Q) f) (ha : SE g E ta a) (hb : SE g E tb b) : SE g E (tBM g.K "list" r ta (tCons tb tNil)) (aMtL f a b) := fun s Q ok h =>
  ha s _ ok ((Aft.bind h).mono fun d1 F1 H1 W1 ρ1 ok1 go1 h1 v1 r1 => by
    cases d1 with
    | list ds =>
      refine ⟨?_, ?_⟩
      · cases r1 with
        | lst ha hl => exact .inl ⟨rfl, _, sqL_of (ok1.ex _ _ ha)⟩
      · refine hb ⟨F1, H1, W1, s.σ, ρ1⟩ _ ok1 ((Aft.bind h1).mono fun d2 F2 H2 W2 ρ2 ok2 go2 h2 v2 r2 => ?_)
        obtain ⟨d, hf, k⟩ := h2.lift
        exact hr ⟨F2, H2, W2, s.σ, ρ2⟩ v1 v2 _ d2 d Q ok2 (r1.mono go2.f) r2 hf fun v F H ok3 go3 r3 => k F H _ ok3 go3 v r3
    | _ => exact h1.elim)
/-- the first place of an int -/
def ixI : List Int → Int → Option Nat
  | [], _ => none
  | a :: r, x => if a = x then some 0 else (ixI r x).map (· + 1)
theorem ixI_some : ∀ {l : List Int} {x : Int} {j : Nat}, ixI l x = some j → l[j]? = some x ∧ ∀ (m : Nat) (z : Int), m < j → l[m]? = some z → z ≠ x
  | [], _, _, h => by cases h
  | a :: r, x, j, h => by
    unfold ixI at h
    by_cases c : a = x
    · rw [if_pos c] at h
      cases h
      exact ⟨by rw [c]; rfl, fun m z hm => absurd hm (Nat.not_lt_zero _)⟩
    · rw [if_neg c] at h
      obtain ⟨k, hk, rfl⟩ := Option.map_eq_some_iff.mp h
      obtain ⟨h1, h2⟩ := ixI_some hk
      refine ⟨by simpa using h1, fun m z hm hz => ?_⟩
      cases m with
      | zero => have : a = z := by simpa using hz
                rw [← this]; exact c
      | succ m => exact h2 m z (by omega) (by simpa using hz)
def oIndex : D → D → Option D
  | .list a, .int i => (dints a).bind fun ns => (ixI ns i).map fun (j : Nat) => PyData.int (j : Int)
  | _, _ => none
theorem rs_index : RS g (fun x y H Q => rIndex g.K x [y] H Q) oIndex := RS.sc fun F H x y d1 d2 d Q e r1 r2 hf k => by
  unfold oIndex at hf
  split at hf
  · rename_i ds i
    obtain ⟨ns, h1, h2⟩ := Option.bind_eq_some_iff.mp hf
    obtain ⟨j, h3, rfl⟩ := Option.map_eq_some_iff.mp h2
    rw [dints_eq h1] at r1
    cases r2
    cases r1 with
    | lst ha hl =>
      rw [RepL.ints hl] at ha
      obtain ⟨p1, p2⟩ := ixI_some h3
      refine ⟨_, ns.map V.int, .int i, j, .int i, rfl, rfl, sqL_of (e _ _ ha), rfl, ?_, ?_, ?_, fun m z hm hz => ?_, k _ (.int _)⟩
      · rw [List.all_map]; exact List.all_eq_true.mpr fun _ _ => rfl
      · rw [List.getElem?_map, p1]; rfl
      · show (i == i) = true; exact beq_self_eq_true i
      · rw [List.getElem?_map] at hz
        obtain ⟨z0, hz0, rfl⟩ := Option.map_eq_some_iff.mp hz
        have := p2 m z0 hm hz0
        show (z0 == i) = false
        rw [beq_eq_false_iff_ne]; exact this
  · cases hf
theorem pd_index {o e : Expr} {to te : TE} {a b : AE} {apos cpos : Pos} (ho : PD X g E o to a) (he : PD X g E e te b)
    (hbase : attributeBase o "index" X.env (eval o X.env) = eval o X.env := by rfl)
    (hfew : ((backTo cpos (starEach [e] X.env)).all (fun x => !x.1) && (backToKw cpos (keywordEach [] X.env)).all (fun x => x.1.isSome)
      && decide ([e].length + ([] : List Keyword).length + (if ([] : List Keyword).isEmpty then 0 else 1) < 30)) = true := by rfl)
    (hline : (apos.endLine == cpos.line) = true := by rfl) (hs : starEach [e] X.env = (false, eval e X.env) :: starEach [] X.env := by rfl) (hplain : (backTo cpos (starEach [] X.env)).any (·.1) = false := by rfl) (hK : X.K = K := by rfl) :
    PD X g E (.Call (.Attribute o "index" apos) [e] [] cpos) (tBM K "list" (rIndex K) to (tCons te tNil)) (aMtL oIndex a b) := by
  subst hK
  exact ⟨pe_bm PySem.F.plainAttrs_list PySem.F.slot_list_index PySem.F.type_list_index mt_index ho.pe (pa_cons he.pe pa_nil hs) hbase hfew hline hs hplain, se_mtL (g := g.at X.K) rs_index ho.se he.se⟩
end
def kMtL (f : D → D → Option D) (b : AE) (d1 : D) (ρ : List Sl) : Res D := match isLst d1 with | true => (b ρ).bind (kLift (f d1)) | false => .bad
theorem e_mtL {f : D → D → Option D} {a b : AE} {ρ : List Sl} : aMtL f a b ρ = (a ρ).bind (kMtL f b) := by
  unfold aMtL
  congr 1; funext d1 ρ1
  unfold kMtL
  cases isLst d1 <;> rfl
theorem kMtL_l {f : D → D → Option D} {b : AE} {ds : List D} {ρ : List Sl} : kMtL f b (.list ds) ρ = (b ρ).bind (kLift (f (.list ds))) := rfl
theorem oIndex_il {ns : List Int} {i : Int} {j : Nat} (h : ixI ns i = some j) : oIndex (il ns) (.int i) = some (.int (j : Int)) := by
  show (dints _).bind _ = _
  rw [dints_map]
  show (ixI ns i).map _ = _
  rw [h]; rfl
end DL

/-! try .. except C as e: return f(e); a def that is handed the handled exception -/
namespace DL
open PySem PySem.Spec PyProof.Rows L2

/-! ### defs called in an except suite with the exception -/
def SpE := Addr → Value → Option Addr → Sp
structure FnE (P : Program) (w : World) (K : Fr) (mg : Str → Option Value) (base : Heap) (k : Nat) (f : Addr) (fd : FuncData) (ps : List Str) (sp : SpE) : Prop where
  len : ∀ a c d vs H Q E, sp a c d vs H Q E → vs.length = ps.length
  run : ∀ (A : Around) (outer : List Env) (s : Shared) (H : Hp) (args : Args) (us : List Value) (vs : List V) (Q : VK) (E : XK) (p : Addr × Obj) (c : Value) (d : Option Addr), L2H.RoomH k A → Zc c d p.2 → (∃ vs, p.2.data = .fields vs) → L2H.PinOk outer H s p → Env0 P w K mg base A outer s H → BindsTo s fd args (ps.zip us) → Vals vs us → sp p.1 c d vs H Q E → codeAny (model P w) A (.call (.ref f) args) (CR (L2.CX P w) outer P w H s Q E) s
theorem fn_ofE {P : Program} {w : World} {K : Fr} {mg : Str → Option Value} {base : Heap} {k : Nat} {f : Addr} {x qual : Str} {st : Stmt} {fd : FuncData} {N ps : List Str} {sp : SpE} (F : Fun K x qual st f fd) (S0 : FnScope N ps (defScope st)) (len : ∀ a c d vs H Q E, sp a c d vs H Q E → vs.length = ps.length)
    (hb : ∀ (cdv : Value) (A : Around) (outer : List Env) (s : Shared) (H : Hp) (vs : List V) (Q : VK) (E : XK) (p : Addr × Obj) (c : Value) (d : Option Addr), Zc c d p.2 → (∃ vs, p.2.data = .fields vs) → L2H.RoomH k (A.deeper (envOfC qual (defScope st) s.heap.objs.size f cdv)) → sp p.1 c d vs H Q E →
      ∃ t, PSs (L2H.cxH (L2.CX P w) P w K mg base N qual (defScope st) f cdv A outer s H E p) (defBody st) t ∧ t { nx := fun _ H' => Q .non H', rt := Q } (L2.start N vs) H) : FnE P w K mg base (k + 1) f fd ps sp := by
  obtain ⟨oc, od, kV, doc, pm, an, cdv, ct, osl, rfl, lk, hcd⟩ := F.ex
  refine ⟨len, fun A outer s H args us vs Q E p c d hr hz hf hpin e0 hbi r hsp => ?_⟩
  have hl := len _ _ _ _ _ _ _ hsp
  have KX : K.In s.heap := e0.mod.kin.keeps fun b o e => (e0.bs b o e).1
  have lim : s.heap.NoLimit := e0.mod.nolimit.keeps fun b o e => (e0.bs b o e).1
  have hkind : ∀ y ∈ ps.zip us, (defScope st).names.lookup y.1 = some .local ∨ ((defScope st).names.lookup y.1 = some .cell ∧ ((cellsFrom (s.heap.objs.size + 1) (defScope st).names []).lookup y.1).isSome = true) := fun y hy => by
    rcases S0.par y.1 (List.of_mem_zip (a := y.1) (b := y.2) hy).1 with q | q
    · exact .inl q
    · exact .inr ⟨q, PySem.W.cellsFrom_some _ _ _ (.inl q)⟩
  refine codeAny_call_function hr.depth (KX _ _ lk) rfl S0.co S0.gen rfl (PySem.W.codeRec_of KX hcd) (hbi _ _ _ _ (wpAny_newFunctionEnv_cells S0.kind hkind fun env he s1 x => ?_))
  subst he
  refine ⟨lim.keeps x.toInCall.keep, codeAny_func ?_⟩
  obtain ⟨t, ht, hq⟩ := hb cdv A outer s H vs Q E p c d hz hf (hr.deeper _) hsp
  have I : Inv (L2H.cxH (L2.CX P w) P w K mg base N qual (defScope st) f cdv A outer s H E p) [] (L2.start N vs) H s1 := L2H.inv_startH S0 hpin e0 hl r x
  refine wpAny_mono (ht.run [] s1 (L2.start N vs) H _ I hq) (fun fl s' hs => ?_) fun e s' hs => hs
  cases fl with
  | ret u =>
    obtain ⟨v, σ', H', J, rv, q⟩ := hs
    exact ⟨v, H', J.os, J.bare, J.base, J.hok, rv, q⟩
  | next =>
    obtain ⟨σ', H', J, q⟩ := hs
    exact ⟨.non, H', J.os, J.bare, J.base, J.hok, rfl, q⟩
  | brk => obtain ⟨_, _, _, q⟩ := hs; exact False.elim q
  | cont => obtain ⟨_, _, _, q⟩ := hs; exact False.elim q
def E0X : XK := fun _ _ _ => False
def tCallE (sp : SpE) (a : Addr) (c : Value) (d : Option Addr) (t : TA) : TE := fun σ H Q => t σ H fun vs H1 => sp a c d vs H1 Q E0X
section
variable {X : Cx} {k : Nat} {f : Addr} {fd : FuncData} {ps : List Str} {sp : SpE} {x : Str} {q pos : Pos} {e : Expr} {es : List Expr} {t : TA}
theorem pe_callE (F : FnE X.prog X.w X.K X.mg X.base k f fd ps sp) (hr : L2H.RoomH k X.A) {p : Addr × Obj} {c : Value} {d : Option Addr} (hp : p ∈ X.pn) (hz : Zc c d p.2) (hf : ∃ vs, p.2.data = .fields vs) (hg : Gl X x) (hm : X.mg x = some (.ref f)) (hk : PySem.W.keepIn X.K (.ref f) = true) (hb : Binds X.K fd ps [])
    (ha : PA X (e :: es) t) (hdb : (x == ("__debug__" : Str)) = false := by decide) (he : starEach (e :: es) X.env = (false, eval e X.env) :: starEach es X.env := by rfl) (hpl : (backTo pos (starEach es X.env)).any (·.1) = false := by rfl) :
    PE X (.Call (.Name x q) (e :: es) [] pos) (tCallE sp p.1 c d t) := by
  refine ⟨fun pins s σ H Q I h => wpAny_Call_Name_kw (ld_glob I hg hm (PySem.W.callWith_K (h₀ := X.base) I.ok.mod.kin hk (thn (ha.run pos pins s σ H _ I h) fun us s1 ⟨vs, H1, I1, r, q⟩ => ⟨I1.kIn, ?_⟩) he hpl) hdb)⟩
  have hl : us.length = ps.length := by rw [← r.length]; exact F.len _ _ _ _ _ _ _ q
  have b := hb s1 us I1.kIn (by rw [List.append_nil]; exact hl)
  rw [List.append_nil] at b
  have P1 := I1.pin p (List.mem_append_left _ hp)
  refine wpAny_call (codeAny_mono (F.run X.A X.stack s1 H1 ⟨us, []⟩ us vs Q E0X p c d hr hz hf ⟨P1.1, P1.2.1, fun hm => (List.mem_cons.mp (I1.stkSub p.1 hm)).elim P1.2.2.1 P1.2.2.2.1, P1.2.2.2.2⟩ I1.env0 b r q) fun r s' hq => ?_)
  cases r with
  | error e => obtain ⟨_, _, _, _, _, _, _, _, _, _, _, _, z⟩ := hq; exact z.elim
  | ok fl =>
    cases fl with
    | ret u => exact I1.after hq
    | next => exact False.elim hq
    | brk => exact False.elim hq
    | cont => exact False.elim hq
end

/-! ### the classes of errors -/
structure ExOne (K : Fr) (L c : Addr) : Prop where
  ex : ExcC K c
  cd : ∃ cd, PySem.W.clsIn K c = some cd ∧ cd.mro = [.ref c, .ref L, .type "ValueError", .type "Exception", .type "BaseException", .type "object"]
  ty : PySem.W.typeIn K (.ref c) = some (.type "type")
structure ExW (K : Fr) (L : Addr) (es : List Addr) : Prop where
  one : ∀ c ∈ es, ExOne K L c
  nd : (L :: es).Nodup
  cl : (PySem.W.clsIn K L).isSome = true
  lt : PySem.W.typeIn K (.ref L) = some (.type "type")
  lb : PySem.W.subIn K (.ref L) (.type "BaseException") = some true
theorem ExOne.sub {K : Fr} {L c : Addr} (h : ExOne K L c) (v : Value) : PySem.W.subIn K (.ref c) v = some (([.ref c, .ref L, .type "ValueError", .type "Exception", .type "BaseException", .type "object"] : List Value).contains v) := by
  obtain ⟨cd, h1, h2⟩ := h.cd
  show (PySem.W.clsIn K c).bind _ = _
  rw [h1]
  show (if cd.mro.isEmpty then none else some (cd.mro.contains v)) = _
  rw [h2]; rfl
theorem ExW.kit {K : Fr} {L : Addr} {es : List Addr} (h : ExW K L es) {i j : Nat} {c d : Addr} (hi : es[i]? = some c) (hj : es[j]? = some d) : PySem.W.kitOne K (.ref c) (.ref d) = some (i == j) := by
  have n1 := List.nodup_cons.mp h.nd
  have hd := h.one d (List.mem_of_getElem? hj)
  have hc := h.one c (List.mem_of_getElem? hi)
  unfold PySem.W.kitOne
  by_cases e : i = j
  · subst e
    rw [hi] at hj; cases hj
    rw [if_pos (by simp)]; simp
  · have ne : c ≠ d := fun q => e (by
      subst q
      exact (List.getElem_inj n1.2).mp ((List.getElem?_eq_some_iff.mp hi).2.trans (List.getElem?_eq_some_iff.mp hj).2.symm))
    rw [if_neg (by simpa using ne)]
    obtain ⟨cd, q1, _⟩ := hd.cd
    show (if ((PySem.W.clsIn K d).isSome && PySem.W.typeIn K (.ref d) == some (.type "type")) = true then PySem.W.subIn K (.ref c) (.ref d) else none) = _
    rw [if_pos (by rw [q1, hd.ty]; rfl), hc.sub]
    have nl : d ≠ L := fun q => n1.1 (by rw [← q]; exact List.mem_of_getElem? hj)
    congr 1
    rw [show (i == j) = false from beq_eq_false_iff_ne.mpr e]
    simp [List.contains_cons, Ne.symm ne, nl]
theorem kit_VE : PySem.W.kitMeta "ValueError" = true := by decide +kernel
theorem ExOne.kitV {K : Fr} {L c : Addr} (h : ExOne K L c) : PySem.W.kitOne K (.ref c) (.type "ValueError") = some true := by
  unfold PySem.W.kitOne
  rw [if_neg (by simp)]
  show (if PySem.W.kitMeta "ValueError" = true then PySem.W.subIn K (.ref c) (.type "ValueError") else none) = _
  rw [if_pos kit_VE, h.sub]
  simp [List.contains_cons]
theorem ExW.catch {K : Fr} {L : Addr} {es : List Addr} (h : ExW K L es) {c : Addr} (hc : c ∈ es) : PySem.W.exmOne K (.ref c) (.ref L) = some true := by
  unfold PySem.W.exmOne
  rw [if_pos (by rw [h.lb]; rfl)]
  show (if ((PySem.W.clsIn K L).isSome && PySem.W.typeIn K (.ref L) == some (.type "type")) = true then PySem.W.subIn K (.ref c) (.ref L) else none) = _
  rw [if_pos (by rw [h.cl, h.lt]; rfl), (h.one c hc).sub]
  simp [List.contains_cons]

/-! ### isinstance of the exception -/
theorem call_isEp {X : Cx} {p : Addr × Obj} {D : Addr} (C : ExcC X.K D) (hp : p ∈ X.pn) (hz : Zc (.ref D) none p.2) (hf : ∃ vs, p.2.data = .fields vs) : CallR X (.builtin "isinstance") (rIsE X.K D p.1) := by
  intro pins s σ H xs us Q I r h
  obtain ⟨c, cv, b, rfl, hcv, e, q⟩ := h
  cases r with | cons rx rr =>
  cases rr with | cons rt rr =>
  cases rr
  cases rx
  have ec := hcv _ rt
  subst ec
  obtain ⟨hget, _⟩ := I.pin p (List.mem_append_left _ hp)
  obtain ⟨vs, hv⟩ := hf
  have J : PySem.W.InstAt s.heap p.1 p.2 D none := by
    obtain ⟨pa, oc, od, oda, osl⟩ := p
    obtain ⟨h1, h2⟩ := hz
    dsimp only at h1 h2 hv
    subst h1 h2 hv
    exact ⟨hget, rfl, rfl, trivial⟩
  exact PySem.W.kia_one (PySem.W.handS_kitx_exc C.hg C.hk C.hs C.hd C.ha C.hn C.ht C.hm) I.kIn J e (fun z => nomatch z) fun tk => ⟨.bl b, H, I.kept (t' := tk) fun _ _ z => z, rfl, q⟩
def isEB (c : Nat) (s : Sl) (ρ : List Sl) : Res PyData := match s with | .pin (.exn k) => .ok (.bool (k == c)) ρ | _ => .bad
def isVB (s : Sl) (ρ : List Sl) : Res PyData := match s with | .pin (.exn k) => .ok (.bool true) ρ | _ => .bad
def aIsE (i c : Nat) : AE := fun ρ => isEB c (sl ρ i) ρ
def aIsV (i : Nat) : AE := fun ρ => isVB (sl ρ i) ρ
/-- what the walk knows of the exception that is handled -/
structure EAt (K : Fr) (L : Addr) (es : List Addr) (g : G) (p : Addr × Obj) (D : Addr) : Prop where
  w : ExW K L es
  c : es[g.en]? = some D
  z : Zc (.ref D) none p.2
  f : ∃ vs, p.2.data = .fields vs
  a : g.ea = p.1
section
variable {X : Cx} {g : G} {E : EX} {K : Fr} {L D : Addr} {es : List Addr} {p : Addr × Obj}
theorem pd_isE {i c : Nat} {n y : Str} {p1 p2 p3 pos : Pos} (T : EAt X.K L es g p D) (hp : p ∈ X.pn) {d : Addr} (hc : es[c]? = some d) (hy : X.mg y = some (.ref d)) (hm : X.mg "isinstance" = none) (hn : PE X (.Name n p1) (tVar i)) (hg : Gl X "isinstance" := by rfl) (hgy : Gl X y := by rfl) (hdy : (y == ("__debug__" : Str)) = false := by decide)
    (hs1 : starEach [.Name n p1, .Name y p2] X.env = (false, eval (.Name n p1) X.env) :: starEach [.Name y p2] X.env := by rfl) (hs2 : starEach [.Name y p2] X.env = (false, eval (.Name y p2) X.env) :: starEach [] X.env := by rfl) (hpl : (backTo pos (starEach [.Name y p2] X.env)).any (·.1) = false := by rfl) :
    PD X g E (.Call (.Name "isinstance" p3) [.Name n p1, .Name y p2] [] pos) (tCB (rIsE X.K D p.1) (tCons (tVar i) (tCons (tC (.ref d)) tNil))) (aIsE i c) := by
  have hD := T.c
  have hz := T.z
  refine ⟨pe_callB (call_isEp (T.w.one D (List.mem_of_getElem? hD)).ex hp hz T.f) hg hm (by decide +kernel) (pa_cons hn (pa_cons (pe_glob hgy hy (v := .ref d) rfl hdy) pa_nil hs2) hs1) (by decide) (by decide) hs1 hpl, fun s Q ok h => ?_⟩
  unfold aIsE isEB at h
  split at h
  · rename_i k e0
    obtain ⟨v, hv, P, e1, e2⟩ := pin_at ok e0
    cases e1
    refine ⟨.ref g.ea, hv, .ref d, .ref d, g.en == c, by rw [T.a], fun u r => r, T.w.kit hD hc, ?_⟩
    rw [show g.en = k from e2]
    exact Aft.here (s := s) ok h _ (.bl _)
  · exact h.elim
theorem pd_isV {i : Nat} {n : Str} {p1 p2 p3 pos : Pos} (T : EAt X.K L es g p D) (hp : p ∈ X.pn) (hy : X.mg "ValueError" = none) (hm : X.mg "isinstance" = none) (hn : PE X (.Name n p1) (tVar i)) (hg : Gl X "isinstance" := by rfl) (hgy : Gl X "ValueError" := by rfl)
    (hs1 : starEach [.Name n p1, .Name "ValueError" p2] X.env = (false, eval (.Name n p1) X.env) :: starEach [.Name "ValueError" p2] X.env := by rfl) (hs2 : starEach [.Name "ValueError" p2] X.env = (false, eval (.Name "ValueError" p2) X.env) :: starEach [] X.env := by rfl) (hpl : (backTo pos (starEach [.Name "ValueError" p2] X.env)).any (·.1) = false := by rfl) :
    PD X g E (.Call (.Name "isinstance" p3) [.Name n p1, .Name "ValueError" p2] [] pos) (tCB (rIsE X.K D p.1) (tCons (tVar i) (tCons (tC (.ty "ValueError")) tNil))) (aIsV i) := by
  have hD := T.c
  have hz := T.z
  have o := T.w.one D (List.mem_of_getElem? hD)
  refine ⟨pe_callB (call_isEp o.ex hp hz T.f) hg hm (by decide +kernel) (pa_cons hn (pa_cons (pe_bltn hgy hy (by decide +kernel) (v := .ty "ValueError") rfl (by decide) (by decide)) pa_nil hs2) hs1) (by decide) (by decide) hs1 hpl, fun s Q ok h => ?_⟩
  unfold aIsV isVB at h
  split at h
  · rename_i k e0
    obtain ⟨v, hv, P, e1, e2⟩ := pin_at ok e0
    cases e1
    exact ⟨.ref g.ea, hv, .ty "ValueError", .type "ValueError", true, by rw [T.a], fun u r => r, o.kitV, Aft.here (s := s) ok h _ (.bl _)⟩
  · exact h.elim
end
/-! ### count, index of truth values -/
def rCntF (K : Fr) : V → List V → Hp → VK → Prop := fun x xs H Q => ∃ a ys y, x = V.ref a ∧ xs = [y] ∧ SqL K H a ys ∧ flatV y = true ∧ ys.all flatV = true ∧ Q (.int ((ys.countP fun z => eqV z y : Nat) : Int)) H
theorem countP_eqU {x : V} : ∀ {xs : List V} {us : List Value}, Vals xs us → xs.all flatV = true → us.countP (eqU x) = xs.countP fun y => eqV y x
  | _, _, .nil, _ => rfl
  | x0 :: xs, u :: us, .cons r t, f => by
    have f : (flatV x0 && xs.all flatV) = true := f
    rw [Bool.and_eq_true] at f
    rw [List.countP_cons, List.countP_cons, countP_eqU t f.2, eqU_of r f.1]
theorem mt_countF {X : Cx} : MtR X "list.count" (rCntF X.K) := by
  intro pins s σ H x xs v us Q I rx rxs h
  obtain ⟨a, ys, y, rfl, rfl, hs, fy, fys, q⟩ := h
  cases rx
  cases rxs with | cons ry rt =>
  cases rt
  obtain ⟨its, rv, ⟨⟨cls, dd, data, sl⟩, n, ho, hc, hdn, hd⟩, hlen⟩ := I.list hs
  simp only at hc hd
  subst hc hd
  refine call_meets PySem.F.slot_list_count ⟨_, ho, rfl⟩ PySem.F.entry_list_count (PySem.F.args_list_count_2 _ _) (SeqAt.list_countAt a its.toArray n dd sl _ (eqU y)) ⟨ho, fun u hu => mem_eqAt ry fy rv fys u (by simpa using hu), ?_⟩
  refine ⟨.int ((ys.countP fun z => eqV z y : Nat) : Int), H, I.tok _, ⟨s.toks, ?_⟩, q⟩
  show Value.int ((its.toArray.toList.countP (eqU y) : Nat) : Int) s.toks = _
  rw [show its.toArray.toList = its from rfl, countP_eqU rv fys]
def oCountB : PyData → PyData → Option PyData
  | .list a, .bool b => (bls a).map fun bs => .int ((bs.countP fun z => z == b : Nat) : Int)
  | _, _ => none
def ixB : List Bool → Bool → Option Nat
  | [], _ => none
  | a :: r, x => if a = x then some 0 else (ixB r x).map (· + 1)
theorem ixB_some : ∀ {l : List Bool} {x : Bool} {j : Nat}, ixB l x = some j → l[j]? = some x ∧ ∀ (m : Nat) (z : Bool), m < j → l[m]? = some z → z ≠ x
  | [], _, _, h => by cases h
  | a :: r, x, j, h => by
    unfold ixB at h
    split at h
    · rename_i c
      cases h
      exact ⟨by rw [c]; rfl, fun m z hm => absurd hm (Nat.not_lt_zero _)⟩
    · rename_i c
      obtain ⟨k, hk, rfl⟩ := Option.map_eq_some_iff.mp h
      obtain ⟨h1, h2⟩ := ixB_some hk
      refine ⟨by simpa using h1, fun m z hm hz => ?_⟩
      cases m with
      | zero => rw [← Option.some.inj (show some a = some z from hz)]; exact c
      | succ m => exact h2 m z (by omega) (by simpa using hz)
def oIndexB : PyData → PyData → Option PyData
  | .list a, .bool b => (bls a).bind fun bs => (ixB bs b).map fun (j : Nat) => PyData.int (j : Int)
  | _, _ => none
section
variable {g : G}
theorem rs_countB : RS g (fun x y H Q => rCntF g.K x [y] H Q) oCountB := RS.sc fun F H x y d1 d2 d Q e r1 r2 hf k => by
  unfold oCountB at hf
  split at hf
  · rename_i ds b
    obtain ⟨bs, h1, rfl⟩ := Option.map_eq_some_iff.mp hf
    rw [bls_eq h1] at r1
    cases r2
    cases r1 with | lst ha hl =>
    rw [RepL.bls hl] at ha
    refine ⟨_, bs.map V.bl, .bl b, rfl, rfl, sqL_of (e _ _ ha), rfl, ?_, ?_⟩
    · rw [List.all_map]; exact List.all_eq_true.mpr fun _ _ => rfl
    · rw [List.countP_map]; exact k _ (.int _)
  · cases hf
theorem rs_indexB : RS g (fun x y H Q => rIndex g.K x [y] H Q) oIndexB := RS.sc fun F H x y d1 d2 d Q e r1 r2 hf k => by
  unfold oIndexB at hf
  split at hf
  · rename_i ds b
    obtain ⟨bs, h1, h2⟩ := Option.bind_eq_some_iff.mp hf
    obtain ⟨j, h3, rfl⟩ := Option.map_eq_some_iff.mp h2
    rw [bls_eq h1] at r1
    cases r2
    cases r1 with | lst ha hl =>
    rw [RepL.bls hl] at ha
    obtain ⟨p1, p2⟩ := ixB_some h3
    refine ⟨_, bs.map V.bl, .bl b, j, .bl b, rfl, rfl, sqL_of (e _ _ ha), rfl, ?_, ?_, beq_self_eq_true b, fun m z hm hz => ?_, k _ (.int _)⟩
    · rw [List.all_map]; exact List.all_eq_true.mpr fun _ _ => rfl
    · rw [List.getElem?_map, p1]; rfl
    · rw [List.getElem?_map] at hz
      obtain ⟨z0, hz0, rfl⟩ := Option.map_eq_some_iff.mp hz
      exact beq_eq_false_iff_ne.mpr (p2 m z0 hm hz0)
  · cases hf
end
section
variable {X : Cx} {g : G} {E : EX} {K : Fr} {o e : Expr} {to te : TE} {a b : AE} {apos cpos : Pos}
theorem pd_countB (ho : PD X g E o to a) (he : PD X g E e te b) (hbase : attributeBase o "count" X.env (eval o X.env) = eval o X.env := by rfl)
    (hfew : ((backTo cpos (starEach [e] X.env)).all (fun x => !x.1) && (backToKw cpos (keywordEach [] X.env)).all (fun x => x.1.isSome) && decide ([e].length + ([] : List Keyword).length + (if ([] : List Keyword).isEmpty then 0 else 1) < 30)) = true := by rfl)
    (hline : (apos.endLine == cpos.line) = true := by rfl) (hs : starEach [e] X.env = (false, eval e X.env) :: starEach [] X.env := by rfl) (hplain : (backTo cpos (starEach [] X.env)).any (·.1) = false := by rfl) (hK : X.K = K := by rfl) :
    PD X g E (.Call (.Attribute o "count" apos) [e] [] cpos) (tBM K "list" (rCntF K) to (tCons te tNil)) (aMtL oCountB a b) := by
  subst hK
  exact ⟨pe_bm PySem.F.plainAttrs_list PySem.F.slot_list_count PySem.F.type_list_count mt_countF ho.pe (pa_cons he.pe pa_nil hs) hbase hfew hline hs hplain, se_mtL (g := g.at X.K) rs_countB ho.se he.se⟩
theorem pd_indexB (ho : PD X g E o to a) (he : PD X g E e te b) (hbase : attributeBase o "index" X.env (eval o X.env) = eval o X.env := by rfl)
    (hfew : ((backTo cpos (starEach [e] X.env)).all (fun x => !x.1) && (backToKw cpos (keywordEach [] X.env)).all (fun x => x.1.isSome) && decide ([e].length + ([] : List Keyword).length + (if ([] : List Keyword).isEmpty then 0 else 1) < 30)) = true := by rfl)
    (hline : (apos.endLine == cpos.line) = true := by rfl) (hs : starEach [e] X.env = (false, eval e X.env) :: starEach [] X.env := by rfl) (hplain : (backTo cpos (starEach [] X.env)).any (·.1) = false := by rfl) (hK : X.K = K := by rfl) :
    PD X g E (.Call (.Attribute o "index" apos) [e] [] cpos) (tBM K "list" (rIndex K) to (tCons te tNil)) (aMtL oIndexB a b) := by
  subst hK
  exact ⟨pe_bm PySem.F.plainAttrs_list PySem.F.slot_list_index PySem.F.type_list_index mt_index ho.pe (pa_cons he.pe pa_nil hs) hbase hfew hline hs hplain, se_mtL (g := g.at X.K) rs_indexB ho.se he.se⟩
end

/-! ### the def's promise, the clause -/
abbrev G.exn (g : G) (a : Addr) (n : Nat) : G := ⟨g.K, g.C, g.cls, a, n⟩
def spE (g : G) (es : List Addr) (f : Fn) : SpE := fun a c d vs H Q E => vs = [.ref a] ∧ d = none ∧ ∃ n D F, es[n]? = some D ∧ c = .ref D ∧ Ex F H ∧ (match f [.pin (.exn n)] with
  | .ok dd _ => ∀ v (t : S), t.Ok (g.exn a n) → Go ⟨F, H, fun _ => False, [some (.ref a)], [.pin (.exn n)]⟩ t → Rep g.K t.F v dd → Q v t.H
  | _ => False)
theorem fn_bodyE {P : Program} {w : World} {mg : Str → Option Value} {base : Heap} {g : G} {L : Addr} {es : List Addr} {x qual : Str} {st : Stmt} {f : Addr} {fd : FuncData} {N ps : List Str} {k : Nat} {b : AS} (F : Fun g.K x qual st f fd) (S0 : FnScope N ps (defScope st)) (hn : ps.length = 1) (W : ExW g.K L es)
    (h : ∀ (cdv : Value) (A : Around) (outer : List Env) (s : Shared) (H : Hp) (E : XK) (p : Addr × Obj) (D : Addr) (n : Nat), L2H.RoomH k (A.deeper (envOfC qual (defScope st) s.heap.objs.size f cdv)) → EAt g.K L es (g.exn p.1 n) p D →
      ∃ t, PSs (L2H.cxH (L2.CX P w) P w g.K mg base N qual (defScope st) f cdv A outer s H E p) (defBody st) t ∧ SS (g.exn p.1 n) (fun _ => E) t b) : FnE P w g.K mg base (k + 1) f fd ps (spE g es (runF 1 N.length b)) := by
  refine fn_ofE F S0 (fun a c d vs H Q E hs => by rw [hs.1, hn]; rfl) (fun cdv A outer s H vs Q E p c d hz hf hr hs => ?_)
  obtain ⟨ev, ed, n, D, F0, hD, ec, hex, hm⟩ := hs
  subst ev ed ec
  obtain ⟨t, hp, hb⟩ := h cdv A outer s H E p D n hr ⟨W, hD, hz, hf, rfl⟩
  refine ⟨t, hp, ?_⟩
  have ok0 : (S.mk F0 H (fun _ => False) ([V.ref p.1].map some) [.pin (.exn n)]).Ok (g.exn p.1 n) := ⟨hex, fun _ q => q.elim, rfl, fun _ _ => False, fun _ _ q => q, fun _ _ _ q => q.elim, fun i x hx => by
    cases i with
    | zero => cases (show some (Sl.pin (.exn n)) = some x from hx); exact ⟨rfl, rfl⟩
    | succ i => simp at hx⟩
  have oks := fn_start (N.length - 1) ok0
  rw [show L2.start N [V.ref p.1] = [V.ref p.1].map some ++ List.replicate (N.length - 1) none from rfl]
  refine hb ⟨F0, H, fun _ => False, [V.ref p.1].map some ++ List.replicate (N.length - 1) none, [.pin (.exn n)] ++ List.replicate (N.length - 1) .none⟩ _ oks ?_
  show AftS (g.exn p.1 n) _ _ (b ([.pin (.exn n)] ++ List.replicate (N.length - 1) .none)) _
  unfold runF at hm
  cases e : b ([.pin (.exn n)] ++ List.replicate (N.length - 1) .none) with
  | rt d ρ =>
    rw [e] at hm
    intro u eu oku gou v rv
    obtain ⟨o1, o2⟩ := fn_end ok0 oku gou
    exact hm v ⟨u.F, u.H, u.W, [V.ref p.1].map some, pinsFrom u.ρ 0 [.pin (.exn n)]⟩ o1 o2 rv
  | nx ρ =>
    rw [e] at hm
    intro u eu oku gou
    obtain ⟨o1, o2⟩ := fn_end ok0 oku gou
    exact hm .non ⟨u.F, u.H, u.W, [V.ref p.1].map some, pinsFrom u.ρ 0 [.pin (.exn n)]⟩ o1 o2 .non
  | exc x ρ => rw [e] at hm; exact hm.elim
  | bk ρ => rw [e] at hm; exact hm.elim
  | ct ρ => rw [e] at hm; exact hm.elim
  | bad => rw [e] at hm; exact hm.elim
structure ClE (P : Program) (w : World) (K : Fr) (mg : Str → Option Value) (base : Heap) (g : G) (es : List Addr) (k : Nat) (x : Str) (f : Fn) : Prop where
  ex : ∃ fa fd ps, FnE P w K mg base k fa fd ps (spE g es f) ∧ mg x = some (.ref fa) ∧ PySem.W.keepIn K (.ref fa) = true ∧ Binds K fd ps []
/-- a state behind a call that was handed nothing that is owned -/
theorem S.Ok.called {g g' : G} {s t : S} {σ' : L2.St} {ρ' : List Sl} (hK : g'.K = g.K) (ok : s.Ok g) (okt : t.Ok g') (go : Go ⟨s.F, s.H, fun _ => False, σ', ρ'⟩ t) : (S.mk t.F t.H s.W s.σ s.ρ).Ok g ∧ Go s ⟨t.F, t.H, s.W, s.σ, s.ρ⟩ := by
  obtain ⟨O, h1, h2, h3⟩ := ok.sl
  refine ⟨⟨okt.ex, fun a ha => ?_, ok.len, O, h1, h2, fun i x hx => (h3 i x hx).keep go.f (fun a ha hne => ?_) fun _ q => q⟩, go.f, fun a o ha _ => go.keep a o ha fun q => q, fun a q1 q2 _ => go.fr a q1 q2 fun q => q, fun a ha => .inl ha, fun i m hi => ⟨rfl, m, hi⟩⟩
  · obtain ⟨q1, q2⟩ := ok.fw a ha
    refine ⟨go.fr a q2 q1 fun q => q, ?_⟩
    cases e : s.H a with
    | none => exact absurd e q2
    | some o => show t.H a ≠ none; rw [go.keep a o e fun q => q]; exact fun q => nomatch q
  · cases e : s.H a with
    | none => exact absurd e hne
    | some o => exact go.keep a o e fun q => q
theorem S.Ok.gone {g : G} {s : S} {i : Nat} (ok : s.Ok g) (hn : noPin (DL.sl s.ρ i) = true) : (S.mk s.F s.H s.W s.σ (s.ρ.set i .none)).Ok g ∧ Go s ⟨s.F, s.H, s.W, s.σ, s.ρ.set i .none⟩ := by
  obtain ⟨O, h1, h2, h3⟩ := ok.sl
  refine ⟨⟨ok.ex, ok.fw, by show s.σ.length = (s.ρ.set i .none).length; rw [List.length_set]; exact ok.len, O, h1, h2, fun j x hx => ?_⟩, .refl _, fun _ _ h _ => h, fun _ _ h _ => h, fun _ h => .inl h, fun j m hj => ⟨rfl, m, ?_⟩⟩
  · have hx : (s.ρ.set i .none)[j]? = some x := hx
    by_cases e : i = j
    · subst e
      by_cases hl : i < s.ρ.length
      · rw [List.getElem?_set_self hl] at hx; cases hx; trivial
      · rw [List.getElem?_eq_none (by rw [List.length_set]; omega)] at hx; cases hx
    · rw [List.getElem?_set_ne e] at hx; exact h3 j x hx
  · show (s.ρ.set i .none)[j]? = _
    rw [List.getElem?_set_ne fun e => by subst e; rw [sl_of hj] at hn; cases hn]; exact hj
def FRes.ret (i : Nat) (ρ : List Sl) : FRes → SRes
  | .ok d _ => .rt d (ρ.set i .none)
  | _ => .bad
def tryB (n i : Nat) (f : Fn) : SRes → SRes
  | .exc e ρ => if decide (e < n) && (noPin (sl ρ i) && decide (i < ρ.length)) then (f [.pin (.exn e)]).ret i ρ else .bad
  | r => r
def asTry (n i : Nat) (f : Fn) (b : AS) : AS := fun ρ => tryB n i f (b ρ)
section
variable {X : Cx} {g : G} {L : Addr} {es : List Addr} {EE : XK}
/-- a block's reading told by its meaning -/
def semS (g : G) (E : EX) (b : AS) : TS := fun D σ H => ∃ F W ρ, (S.mk F H W σ ρ).Ok g ∧ AftS g E ⟨F, H, W, σ, ρ⟩ (b ρ) (KE.of g D)
theorem sem_pss {X : Cx} {g : G} {E : EX} {body : List Stmt} {t : TS} {b : AS} (q : PSsD X g E body t b) : PSs X body (semS (g.at X.K) E b) := ⟨fun pins s σ H D I h => by
  obtain ⟨F, W, ρ, ok, ha⟩ := h
  exact q.ps.run pins s σ H D I (q.ss ⟨F, H, W, σ, ρ⟩ D ok ha)⟩
theorem psd_try {kk j i m : Nat} {x n : Str} {f : Fn} {body : List Stmt} {b : AS} {np p p2 cp rp pos pos' : Pos} (c : ClE X.prog X.w X.K X.mg X.base (g.at X.K) es kk x f) (hr : Room j X.A) (W : ExW X.K L es) (hcls : ∀ j c, es[j]? = some c → g.cls j = .ref c) (hL : X.mg "LineError" = some (.ref L)) (tk : L2.Takes X (fun cls d _ H => EE cls d H)) (nes : es.length = m) (hN : X.N.Nodup)
    (hb : ∀ (W : WX) (pn : List (Addr × Obj)) (xe : Value → Shared → Prop), L2.Takes (X.tr pn xe) W → PassesOwn (model X.prog X.w) X.A X.env xe → ∃ tq, PSsD (X.tr pn xe) g (L2.WE W) body tq b)
    (hk : kk ≤ j := by decide) (hi : X.N[i]? = some n := by rfl) (hln : X.env.kindOf n = some .local := by rfl) (hgx : Gl X x := by rfl) (hgL : Gl X "LineError" := by rfl) (hs : X.stack = X.env :: X.outer := by rfl) (hf : X.env.frame = some X.env.locals := by rfl) (hdx : (x == ("__debug__" : Str)) = false := by decide) (hd : (n == ("__debug__" : Str)) = false := by decide) (hcd : (n == ("__classdict__" : Str)) = false := by decide)
    (he : starEach [.Name n p2] X.env = (false, eval (.Name n p2) X.env) :: starEach [] X.env := by rfl) (hpl : (backTo cp (starEach [] X.env)).any (·.1) = false := by rfl) :
    PSD X g (fun _ => EE) (.Try body [.ExceptHandler (some (.Name "LineError" np)) (some n) [.Return (some (.Call (.Name x p) [.Name n p2] [] cp)) rp] pos'] [] [] pos)
      (fun D σ H => semS (g.at X.K) (L2.WE (wAs X.K (.ref L) i (fun a c d => tRet (tCallE (spE (g.at X.K) es f) a c d (tCons (tVar i) tNil))) (fun cls d _ H => EE cls d H) D)) b D σ H) (asTry m i f b) := by
  subst nes
  obtain ⟨fa, fd, ps, h1, h2, h3, h4⟩ := c.ex
  refine ⟨ps_try_as (tb := fun W => semS (g.at X.K) (L2.WE W) b) hs hf hN hi hln ⟨hgL, by decide, .inl hL⟩ tk (fun W pn xe t po => by obtain ⟨tq, q⟩ := hb W pn xe t po; exact sem_pss q) (fun a oe cls d pn hz hfl => pss_one (ps_ret ?_)), fun s D ok h => ?_⟩
  · exact pe_callE (X := X.suite a ((a, oe) :: pn)) (p := (a, oe)) h1 ⟨((L2H.roomH_of hr).mono hk).dp, ((L2H.roomH_of hr).mono hk).un⟩ List.mem_cons_self hz hfl hgx h2 h3 h4 (pa_cons (pe_var hi (.inl hln) hd hcd) pa_nil he) hdx he hpl
  · refine ⟨s.F, s.W, s.ρ, ok, ?_⟩
    have h : AftS (g.at X.K) (fun _ => EE) s (tryB es.length i f (b s.ρ)) (KE.of (g.at X.K) D) := h
    show AftS (g.at X.K) _ s (b s.ρ) (KE.of (g.at X.K) D)
    cases e : b s.ρ with
    | nx ρ => rw [e] at h; exact h
    | rt d ρ => rw [e] at h; exact h
    | bk ρ => rw [e] at h; exact h
    | ct ρ => rw [e] at h; exact h
    | bad => rw [e] at h; exact h
    | exc ee ρ =>
      rw [e] at h
      unfold tryB at h
      split at h
      case h_2 q => exact absurd rfl (q _ _)
      rename_i ee' ρ' heq
      cases heq
      split at h
      case isFalse => exact h.elim
      rename_i cc
      rw [Bool.and_eq_true, decide_eq_true_eq, Bool.and_eq_true, decide_eq_true_eq] at cc
      intro t et okt got
      subst et
      have hil : i < t.σ.length := by rw [okt.len]; exact cc.2.2
      obtain ⟨D0, hD0⟩ : ∃ D0, es[ee]? = some D0 := ⟨es[ee], List.getElem?_eq_getElem cc.1⟩
      refine ⟨true, by rw [show (g.at X.K).cls ee = .ref D0 from hcls _ _ hD0]; exact W.catch (List.mem_of_getElem? hD0), fun _ a ha => ?_, fun q => nomatch q⟩
      refine ⟨.ref a, by rw [List.getElem?_set_self hil], rfl, rfl, ee, D0, t.F, hD0, hcls _ _ hD0, okt.ex, ?_⟩
      show (match f [.pin (.exn ee)] with | .ok dd _ => _ | _ => False)
      cases ef : f [.pin (.exn ee)] with
      | ok dd ss =>
        rw [ef] at h
        intro v u oku gou rv
        obtain ⟨o1, o2⟩ := S.Ok.called (g := g.at X.K) (g' := (g.at X.K).exn a ee) rfl okt oku gou
        obtain ⟨o3, o4⟩ := S.Ok.gone (i := i) o1 cc.2.1
        exact h _ rfl o3 ((got.trans o2).trans o4) v rv
      | exc _ _ => rw [ef] at h; exact h.elim
      | bad => rw [ef] at h; exact h.elim
end
end DL

/-! [f, g, ..][i](..): a def chosen from a list -/
namespace DL
open PySem PySem.Spec PyProof.Rows L2
/-- an expression's reading told by its meaning -/
def semE (g : G) (E : EX) (a : AE) : TE := fun σ H Q => ∃ F W ρ, (S.mk F H W σ ρ).Ok g ∧ Aft g E ⟨F, H, W, σ, ρ⟩ (a ρ) (fun d t => ∀ v, Rep g.K t.F v d → Q v t.H)
theorem pd_sem {X : Cx} {g : G} {E : EX} {e : Expr} {a : AE} (h : ∃ te, PD X g E e te a) : PD X g E e (semE (g.at X.K) E a) a := by
  obtain ⟨te, q⟩ := h
  refine ⟨⟨fun pins s σ H Q I h => ?_⟩, fun s Q ok h => ⟨s.F, s.W, s.ρ, ok, h⟩⟩
  obtain ⟨F, W, ρ, ok, ha⟩ := h
  exact q.pe.run pins s σ H Q I (q.se ⟨F, H, W, σ, ρ⟩ Q ok ha)
def tMenu (tf : TE) (C : Addr → Sp → Prop) (E : EX) (t : TA) : TE := fun σ H Q => tf σ H fun v H1 => ∃ f sp, v = .ref f ∧ C f sp ∧ tCallS sp E t σ H1 Q
def Callee (X : Cx) (f : Addr) (sp : Sp) : Prop := ∃ k fd ps, FnOk X.prog X.w X.K X.mg X.base (L2.CX X.prog X.w) k f fd ps sp ∧ Room k X.A ∧ PySem.W.keepIn X.K (.ref f) = true ∧ Binds X.K fd ps []
theorem pe_menu {X : Cx} {v ix e : Expr} {es : List Expr} {tf : TE} {t : TA} {E : EX} {sp pos : Pos} (hf : PE X (.Subscript v ix sp) tf) (hx : ∀ σ, PassesAt (L2.CX X.prog X.w) X σ (E σ)) (ha : PA X (e :: es) t)
    (he : starEach (e :: es) X.env = (false, eval e X.env) :: starEach es X.env := by rfl) (hpl : (backTo pos (starEach es X.env)).any (·.1) = false := by rfl) : PE X (.Call (.Subscript v ix sp) (e :: es) [] pos) (tMenu tf (Callee X) E t) := by
  refine ⟨fun pins s σ H Q I h => ?_⟩
  show wpAny _ _ (eval (.Subscript v ix sp) X.env >>= fun f => callWith pos f [] (backTo pos (starEach (e :: es) X.env)) (backToKw pos (keywordEach [] X.env))) _ _ s
  refine wpAny_bind (thn (hf.run pins s σ H _ I h) fun u s1 ⟨v1, H1, I1, r1, f, sp1, ev, ⟨k, fd, ps, F, hr, hk, hb⟩, q⟩ => ?_)
  subst ev
  cases r1
  exact PySem.W.callWith_K (h₀ := X.base) I1.ok.mod.kin hk (thn (ha.run pos pins s1 σ _ _ I1 q) fun us s2 ⟨vs, H2, I2, r, q2⟩ => ⟨I2.kIn, run_fnS F hr hb (hx σ) I2 r q2⟩) he hpl
/-- an object that nothing knows -/
theorem S.Ok.junk {g : G} {s : S} {p : Addr} {o : HO} (ok : s.Ok g) (hp : s.H p = none) : (S.mk s.F (upd s.H p o) s.W s.σ s.ρ).Ok g ∧ Go s ⟨s.F, upd s.H p o, s.W, s.σ, s.ρ⟩ :=
  ⟨S.Ok.more ok (ok.ex.free hp) (fun q => (ok.fw p q).2 hp), ⟨.refl _, fun a u h _ => Ex.new hp a u h, fun a _ h _ => h, fun _ h => .inl h, fun i m h => ⟨rfl, m, h⟩⟩⟩
def menuB (fs : List Fn) (q : AA) (d : PyData) (ρ : List Sl) : Res PyData := match d with
  | .int i => (match atI fs i with | some f => aCall f q ρ | none => .bad)
  | _ => .bad
def aMenu (fs : List Fn) (b : AE) (q : AA) : AE := fun ρ => (b ρ).bind (menuB fs q)
structure PMD (X : Cx) (g : G) (n : Nat) (es : List Expr) (fs : List Fn) : Prop where
  ex : ∃ (ta : TA) (as : List Addr), PA X es ta ∧ (∀ σ H Q, Q (as.map V.ref) H → ta σ H Q) ∧ as.length = fs.length ∧ ∀ (j : Nat) (f : Fn), fs[j]? = some f → ∃ a, as[j]? = some a ∧ Callee X a (spG (g.at X.K) n f)
section
variable {X : Cx} {g : G} {E : EX} {n : Nat}
theorem pmd_nil : PMD X g n [] [] := ⟨tNil, [], pa_nil, fun σ H Q h => h, rfl, fun j f h => by simp at h⟩
theorem pmd_cons {k j : Nat} {x : Str} {f : Fn} {es : List Expr} {fs : List Fn} {p : Pos} (c : Cl X.prog X.w X.K X.mg X.base (g.at X.K) k n x f) (hr : Room j X.A) (h : PMD X g n es fs) (hk : k ≤ j := by decide) (hg : Gl X x := by rfl) (hd : (x == ("__debug__" : Str)) = false := by decide)
    (hs : starEach (.Name x p :: es) X.env = (false, eval (.Name x p) X.env) :: starEach es X.env := by rfl) : PMD X g n (.Name x p :: es) (f :: fs) := by
  obtain ⟨fa, fd, ps, h1, h2, h3, h4⟩ := c.ex
  obtain ⟨ta, as, q1, q2, q3, q4⟩ := h.ex
  refine ⟨tCons (tC (.ref fa)) ta, fa :: as, pa_cons (pe_glob hg h2 (v := .ref fa) rfl hd) q1 hs, fun σ H Q h => q2 σ H _ h, congrArg (· + 1) q3, fun i f' e => ?_⟩
  cases i with
  | zero =>
    have e : f = f' := by simpa using e
    subst e
    exact ⟨fa, rfl, k, fd, ps, h1, hr.mono hk, h3, h4⟩
  | succ i => exact q4 i f' (by simpa using e)
theorem atI_at {α β : Type} {as : List α} {bs : List β} {i : Int} {b : β} (hl : as.length = bs.length) (h : atI bs i = some b) : ∃ (j : Nat), bs[j]? = some b ∧ ∀ a, as[j]? = some a → atI as i = some a := by
  unfold atI at h ⊢
  rw [hl]
  cases e : ixN bs.length i with
  | none => rw [e] at h; cases h
  | some j => rw [e] at h; exact ⟨j, h, fun a ha => ha⟩
theorem pd_menu {ix e : Expr} {fes es : List Expr} {fs : List Fn} {ti : TE} {b : AE} {t : TA} {q : AA} {lp sp pos : Pos} (hm : PMD X g n fes fs) (hb : PD X g E ix ti b) (hx : ∀ σ, PassesAt (L2.CX X.prog X.w) X σ (E σ)) (ha : PAD X g E (e :: es) t q n) (hsz : fs.length ≤ 1000 := by decide) (hs : PlainIx ix := by exact fun _ _ => rfl)
    (he : starEach (e :: es) X.env = (false, eval e X.env) :: starEach es X.env := by rfl) (hpl : (backTo pos (starEach es X.env)).any (·.1) = false := by rfl) :
    PD X g E (.Call (.Subscript (.List fes lp) ix sp) (e :: es) [] pos) (semE (g.at X.K) E (aMenu fs b q)) (aMenu fs b q) := by
  obtain ⟨tf, as, q1, q2, q3, q4⟩ := hm.ex
  refine pd_sem ⟨_, pe_menu (pe_ix ix_seq (pe_lst q1) hb.pe hs) hx ha.pa he hpl, fun s Q ok h => ?_⟩
  refine q2 _ _ _ ⟨by rw [List.length_map, q3]; exact sz_of hsz, fun p hp => ?_⟩
  obtain ⟨ok1, go1⟩ := S.Ok.junk (o := .lst (as.map V.ref)) ok hp
  have nW : ¬ s.W p := fun z => (ok.fw p z).2 hp
  have h0 : Aft (g.at X.K) E ⟨s.F, upd s.H p (.lst (as.map V.ref)), s.W, s.σ, s.ρ⟩ (aMenu fs b q s.ρ) (fun d t => ∀ v, Rep (g.at X.K).K t.F v d → Q v t.H) := by
    revert h
    cases aMenu fs b q s.ρ with
    | ok d ρ => exact fun h F H W ok go => h F H W ok (go1.trans go)
    | exc x ρ => exact fun h F H W ok go => h F H W ok (go1.trans go)
    | bad => exact fun h => h
  refine hb.se ⟨s.F, upd s.H p (.lst (as.map V.ref)), s.W, s.σ, s.ρ⟩ _ ok1 ((Aft.bind h0).mono fun d F2 H2 W2 ρ2 ok2 go2 h2 v2 r2 => ?_)
  unfold menuB at h2
  split at h2
  case h_2 => exact h2.elim
  rename_i i
  split at h2
  case h_2 => exact h2.elim
  rename_i f ef
  cases r2
  obtain ⟨j, e1, e2⟩ := atI_at (q3.trans (rfl : fs.length = fs.length)) ef
  obtain ⟨a, e3, e4⟩ := q4 j f e1
  have hl : SqL X.K H2 p (as.map V.ref) := sqL_of (go2.keep p _ upd_same nW)
  refine .inl ⟨p, _, i, .ref a, rfl, rfl, hl, ?_, a, _, rfl, e4, ?_⟩
  · rw [atI_map, e2 a e3]; rfl
  · exact se_call (g := g.at X.K) ha.sa (fun s xs ρ => ha.len _ _ _) ⟨F2, H2, W2, s.σ, ρ2⟩ Q ok2 h2
end
theorem e_menu {fs : List Fn} {b : AE} {q : AA} {ρ : List Sl} : aMenu fs b q ρ = (b ρ).bind (menuB fs q) := rfl
end DL

/-! list(zip(xs, ys)) over two lists -/
namespace DL
open PySem PySem.Spec PyProof.Rows L2
theorem bl_list : bootBuiltins "list" = some (.type "list") := by decide +kernel
theorem nolen_zip : typeLookup (.type "zip") "__len__" = pure none := am_miss_of_fast (by decide +kernel)
theorem nohint_zip : typeLookup (.type "zip") "__length_hint__" = pure none := am_miss_of_fast (by decide +kernel)
section
variable {prog : Program} {w : World} {A : Around} {s : Shared}
/-- the zip behind i turns, while S is filled -/
structure ZAt (z TI TO i1 i2 l1 l2 S : Addr) (xs ys : Array Value) (i : Nat) (h : Heap) : Prop where
  ti : IsPair h TI (.ref i1) (.ref i2)
  a1 : h.IsListIter i1 l1 i
  a2 : h.IsListIter i2 l2 i
  b1 : h.IsList l1 xs
  b2 : h.IsList l2 ys
  zz : (IsZip h z TI TO .none ∧ ∃ a b, IsPair h TO a b) ∨ ∃ T f oT, IsZipHeld h z TI TO T f ∧ h.get? T = some oT ∧ T ≠ z ∧ T ≠ i1 ∧ T ≠ i2 ∧ T ≠ S
structure ZSep (z TI TO i1 i2 l1 l2 S : Addr) : Prop where
  D : ZipApart z TI TO i1 i2 l1 l2
  sz : S ≠ z
  sti : S ≠ TI
  sto : S ≠ TO
  s1 : S ≠ i1
  s2 : S ≠ i2
  sl1 : S ≠ l1
  sl2 : S ≠ l2
variable {z TI TO i1 i2 l1 l2 S : Addr} {xs ys : Array Value}
theorem ZAt.keep (Z : ZSep z TI TO i1 i2 l1 l2 S) {i : Nat} {h h' : Heap} (x : ZAt z TI TO i1 i2 l1 l2 S xs ys i h) (k : ∀ b o, b ≠ S → h.get? b = some o → h'.get? b = some o) : ZAt z TI TO i1 i2 l1 l2 S xs ys i h' where
  ti := k _ _ Z.sti.symm x.ti
  a1 := x.a1.at fun o e => k _ o Z.s1.symm e
  a2 := x.a2.at fun o e => k _ o Z.s2.symm e
  b1 := x.b1.at fun o e => k _ o Z.sl1.symm e
  b2 := x.b2.at fun o e => k _ o Z.sl2.symm e
  zz := by
    rcases x.zz with ⟨p, a, b, q⟩ | ⟨T, f, oT, p, q, r1, r2, r3, r4⟩
    · exact .inl ⟨k _ _ Z.sz.symm p, a, b, k _ _ Z.sto.symm q⟩
    · exact .inr ⟨T, f, oT, k _ _ Z.sz.symm p, k _ _ r4 q, r1, r2, r3, r4⟩
theorem z_item (Z : ZSep z TI TO i1 i2 l1 l2 S) {i : Nat} {x y : Value} {Q : Option Value → Shared → Prop} {E : Value → Shared → Prop} (st : ZAt z TI TO i1 i2 l1 l2 S xs ys i s.heap) (hS : S < s.heap.objs.size) (hx : xs[i]? = some x) (hy : ys[i]? = some y)
    (hQ : ∀ h', ZAt z TI TO i1 i2 l1 l2 S xs ys (i + 1) h' → IsPair h' s.heap.objs.size x y → (∀ b o, b ≠ z → b ≠ TO → b ≠ i1 → b ≠ i2 → s.heap.get? b = some o → h'.get? b = some o) → Q (some (.ref s.heap.objs.size)) { s with heap := h' }) :
    wpAny (model prog w) A (pyNext (.ref z)) Q E s := by
  have D := Z.D
  have n1 : s.heap.objs.size ≠ i1 := by obtain ⟨_, e, _⟩ := st.a1; exact Nat.ne_of_gt (Heap.lt_size e)
  have n2 : s.heap.objs.size ≠ i2 := by obtain ⟨_, e, _⟩ := st.a2; exact Nat.ne_of_gt (Heap.lt_size e)
  rcases st.zz with ⟨p, a, b, q⟩ | ⟨T, f, oT, p, q, r1, r2, r3, r4⟩
  · exact wpAny_pyNext_zip_item D p st.ti q st.a1 st.a2 st.b1 st.b2 hx hy fun h' q1 q2 q3 q4 q5 q6 hk => hQ h' ⟨hk _ _ D.TIz D.TITO D.TIi1 D.TIi2 st.ti, q3, q4, st.b1.at fun o e => hk _ o D.l1z D.l1TO D.l1i1 D.l1i2 e, st.b2.at fun o e => hk _ o D.l2z D.l2TO D.l2i1 D.l2i2 e, .inr ⟨_, false, _, q1, q5, Nat.ne_of_gt (Heap.lt_size p), n1, n2, Nat.ne_of_gt hS⟩⟩ q5 hk
  · exact wpAny_pyNext_zip_item_held D p q st.ti st.a1 st.a2 st.b1 st.b2 hx hy fun h' q1 q3 q4 q5 q6 hk => hQ h' ⟨hk _ _ D.TIz D.TIi1 D.TIi2 st.ti, q3, q4, st.b1.at fun o e => hk _ o D.l1z D.l1i1 D.l1i2 e, st.b2.at fun o e => hk _ o D.l2z D.l2i1 D.l2i2 e, .inr ⟨T, true, oT, q1, hk _ _ r1 r2 r3 q, r1, r2, r3, r4⟩⟩ q5 fun b o c1 _ c3 c4 e => hk b o c1 c3 c4 e
theorem z_done (Z : ZSep z TI TO i1 i2 l1 l2 S) (hh : A.handled = none) {i : Nat} {Q : Option Value → Shared → Prop} {E : Value → Shared → Prop} (st : ZAt z TI TO i1 i2 l1 l2 S xs ys i s.heap) (he : xs[i]? = none ∨ ys[i]? = none)
    (hQ : ∀ h', (∀ b o, b ≠ z → b ≠ TO → b ≠ i1 → b ≠ i2 → s.heap.get? b = some o → h'.get? b = some o) → Q none { s with heap := h' }) : wpAny (model prog w) A (pyNext (.ref z)) Q E s := by
  rcases st.zz with ⟨p, a, b, q⟩ | ⟨T, f, oT, p, q, _, _, _, _⟩
  · exact wpAny_pyNext_zip_end hh Z.D p st.ti q st.a1 st.a2 st.b1 st.b2 he hQ
  · exact wpAny_pyNext_zip_end_held hh Z.D p q st.ti st.a1 st.a2 st.b1 st.b2 he fun h' hk => hQ h' fun b o c1 _ c3 c4 e => hk b o c1 c3 c4 e
/-- the tuples laid so far -/
structure ZGot (xs ys : Array Value) (lo : Nat) (h : Heap) (as : List Addr) : Prop where
  nd : as.Nodup
  ge : ∀ a ∈ as, lo ≤ a
  at' : ∀ (j : Nat) (a : Addr), as[j]? = some a → ∃ x y, xs[j]? = some x ∧ ys[j]? = some y ∧ IsPair h a x y
theorem ZGot.keep {lo : Nat} {h h' : Heap} {as : List Addr} (g : ZGot xs ys lo h as) (k : ∀ b o, lo ≤ b → h.get? b = some o → h'.get? b = some o) : ZGot xs ys lo h' as :=
  ⟨g.nd, g.ge, fun j a e => by
    obtain ⟨x, y, e1, e2, e3⟩ := g.at' j a e
    exact ⟨x, y, e1, e2, k _ _ (g.ge a (List.mem_of_getElem? e)) e3⟩⟩
theorem ZGot.more {lo : Nat} {h : Heap} {as : List Addr} {a : Addr} {x y : Value} (g : ZGot xs ys lo h as) (hn : a ∉ as) (hge : lo ≤ a) (hx : xs[as.length]? = some x) (hy : ys[as.length]? = some y) (hp : IsPair h a x y) : ZGot xs ys lo h (as ++ [a]) :=
  ⟨List.nodup_append.mpr ⟨g.nd, by simp, fun u hu v hv e => hn (by rw [List.mem_singleton.mp hv] at e; rw [← e]; exact hu)⟩, fun b hb => by
    rcases List.mem_append.mp hb with q | q
    · exact g.ge b q
    · rw [List.mem_singleton.mp q]; exact hge, fun j b e => by
    by_cases c : j < as.length
    · rw [List.getElem?_append_left c] at e; exact g.at' j b e
    · rw [List.getElem?_append_right (by omega)] at e
      have : j = as.length := by
        have := (List.getElem?_eq_some_iff.mp e).1
        simp at this; omega
      subst this
      have e' : a = b := by simpa using e
      subst e'
      exact ⟨x, y, hx, hy, hp⟩⟩
variable {R : Result → Shared → Prop}
theorem z_loop (Z : ZSep z TI TO i1 i2 l1 l2 S) (hh : A.handled = none) {lo : Nat} (hlo : S < lo ∧ z < lo ∧ TO < lo ∧ i1 < lo ∧ i2 < lo) (hn : min xs.size ys.size ≤ sizeLine) (res : Value) {h1 : Heap}
    (hR : ∀ h' tk acc c as, (∀ b o, b ≠ S → b ≠ z → b ≠ TO → b ≠ i1 → b ≠ i2 → h1.get? b = some o → h'.get? b = some o) → h'.get? S = some { cls := .type "list", dict := none, data := .seq acc c, slots := #[] } → as.length = min xs.size ys.size → ZGot xs ys lo h' as → acc.toList = as.map Value.ref → R (.ok (.ret res)) { s with heap := h', toks := tk }) :
    ∀ (k i : Nat) (h : Heap) (tk c : Nat) (acc : Array Value) (as : List Addr), min xs.size ys.size - i = k → i ≤ min xs.size ys.size → ZAt z TI TO i1 i2 l1 l2 S xs ys i h → (∀ b o, b ≠ S → b ≠ z → b ≠ TO → b ≠ i1 → b ≠ i2 → h1.get? b = some o → h.get? b = some o) →
      h.get? S = some { cls := .type "list", dict := none, data := .seq acc c, slots := #[] } → acc.toList = as.map Value.ref → as.length = i → ZGot xs ys lo h as → lo ≤ h.objs.size →
      codeAny (model prog w) A (.builtin "list.extend.loop" ⟨[.ref S, .ref z, res], []⟩) R { s with heap := h, toks := tk } := by
  obtain ⟨hl1, hl2, hl3, hl4, hl5⟩ := hlo
  have far : ∀ {b : Addr} {c : Addr}, lo ≤ b → c < lo → b ≠ c := fun h1 h2 e => by rw [e] at h1; exact Nat.lt_irrefl _ (Nat.lt_of_lt_of_le h2 h1)
  intro k
  induction k with
  | zero =>
    intro i h tk c acc as hk hi hst hkp hS hacc hal hG hsz
    refine codeAny_builtin PySem.F.entry_extend_loop ?_; rw [Around.under_plainId PySem.F.plain_extend_loop _]
    show wpAny _ A.in1 (pyNext (.ref z) >>= _) _ _ { s with heap := h, toks := tk }
    refine wpAny_bind (z_done (s := { s with heap := h, toks := tk }) (A := A.in1) Z hh hst ?_ fun h' hk' => wpAny_pure (hR h' tk acc c as (fun b o c1 c2 c3 c4 c5 e => hk' b o c2 c3 c4 c5 (hkp b o c1 c2 c3 c4 c5 e)) (hk' S _ Z.sz Z.sto Z.s1 Z.s2 hS) (by omega) (hG.keep fun b o hb e => hk' b o (far hb hl2) (far hb hl3) (far hb hl4) (far hb hl5) e) hacc))
    rcases Nat.le_total xs.size ys.size with q | q
    · exact .inl (Array.getElem?_eq_none (by omega))
    · exact .inr (Array.getElem?_eq_none (by omega))
  | succ k ih =>
    intro i h tk c acc as hk hi hst hkp hS hacc hal hG hsz
    obtain ⟨x, hx⟩ : ∃ x, xs[i]? = some x := ⟨xs[i]'(by omega), Array.getElem?_eq_getElem (by omega)⟩
    obtain ⟨y, hy⟩ : ∃ y, ys[i]? = some y := ⟨ys[i]'(by omega), Array.getElem?_eq_getElem (by omega)⟩
    have hasz : acc.size = i := by rw [← Array.length_toList, hacc, List.length_map, hal]
    refine codeAny_builtin PySem.F.entry_extend_loop ?_; rw [Around.under_plainId PySem.F.plain_extend_loop _]
    show wpAny _ A.in1 (pyNext (.ref z) >>= _) _ _ { s with heap := h, toks := tk }
    refine wpAny_bind (z_item (s := { s with heap := h, toks := tk }) (A := A.in1) Z hst (Heap.lt_size hS) hx hy fun h' hst' hp hk' => ?_)
    dsimp only at hp hk' ⊢
    have hS' := hk' S _ Z.sz Z.sto Z.s1 Z.s2 hS
    have up : ∀ b o, b ≠ S → h'.get? b = some o → (h'.update S (Obj.mapSeq (·.push (Value.ref h.objs.size)))).get? b = some o := fun b o hb => (Heap.get?_update_other _ _ (Ne.symm hb)).trans
    have nin : h.objs.size ∉ as := fun q => by
      obtain ⟨j, hj⟩ := List.mem_iff_getElem?.mp q
      obtain ⟨_, _, _, _, e⟩ := hG.at' j _ hj
      exact Nat.lt_irrefl _ (Heap.lt_size e)
    have g2 : ZGot xs ys lo (h'.update S (Obj.mapSeq (·.push (Value.ref h.objs.size)))) (as ++ [h.objs.size]) := by
      have g1 : ZGot xs ys lo h' as := hG.keep fun b o hb e => hk' b o (far hb hl2) (far hb hl3) (far hb hl4) (far hb hl5) e
      exact (g1.keep fun b o hb e => up b o (far hb hl1) e).more nin hsz (by rw [hal]; exact hx) (by rw [hal]; exact hy) (up _ _ (far hsz hl1) hp)
    show wpAny _ A.in1 (updateSeq S (·.push (Value.ref h.objs.size)) >>= _) _ _ { s with heap := h', toks := tk }
    refine wpAny_bind (wpAny_updateSeq hS' rfl (wpAny_pure ⟨plainId_quiet PySem.F.plain_extend_loop _, ih (i + 1) _ tk _ (acc.push (Value.ref h.objs.size)) (as ++ [h.objs.size]) (by omega) (by omega) (hst'.keep Z up) (fun b o c1 c2 c3 c4 c5 e => up b o c1 (hk' b o c2 c3 c4 c5 (hkp b o c1 c2 c3 c4 c5 e))) (Heap.get?_update_self _ hS' rfl) (by rw [Array.toList_push, hacc, List.map_append]; rfl) (by rw [List.length_append, hal]; rfl) g2 ?_⟩) (by rw [hasz]; omega) (by show (acc.push (Value.ref h.objs.size)).size ≤ sizeLine + 1; rw [Array.size_push, hasz]; omega))
    have e1 := up _ _ (far hsz hl1) hp
    exact Nat.le_of_lt (Nat.lt_of_le_of_lt hsz (Heap.lt_size e1))
theorem z_extend (Z : ZSep z TI TO i1 i2 l1 l2 S) (hh : A.handled = none) (hst : ZAt z TI TO i1 i2 l1 l2 S xs ys 0 s.heap) (hz : IsZip s.heap z TI TO .none) (hn : min xs.size ys.size ≤ sizeLine) (hlt : S < s.heap.objs.size ∧ z < s.heap.objs.size ∧ TO < s.heap.objs.size ∧ i1 < s.heap.objs.size ∧ i2 < s.heap.objs.size) (res : Value) (c0 : Nat) (hS : s.heap.get? S = some { cls := .type "list", data := .seq #[] c0 })
    (hR : ∀ h' tk acc c as, (∀ b o, b ≠ S → b ≠ z → b ≠ TO → b ≠ i1 → b ≠ i2 → s.heap.get? b = some o → h'.get? b = some o) → h'.get? S = some { cls := .type "list", dict := none, data := .seq acc c, slots := #[] } → as.length = min xs.size ys.size → ZGot xs ys s.heap.objs.size h' as → acc.toList = as.map Value.ref → R (.ok (.ret res)) { s with heap := h', toks := tk }) :
    wpAny (model prog w) A.in1 (Builtin.List.listExtendWith (.ref S) (.ref z) res) (fun fin s' => match fin with | .done f => R (.ok f) s' | .again c' => c'.quiet = true ∧ codeAny (model prog w) A c' R s') (fun e s' => R (.error e) s') s := by
  have hT : s.TypeIs (.ref z) "zip" := ⟨_, hz, rfl⟩
  unfold Builtin.List.listExtendWith
  refine wpAny_bind (wpAny_typeOf hT ?_)
  simp only [show Builtin.List.listSameRef (.ref S) (.ref z) = false by simp [Builtin.List.listSameRef, Z.sz], show (Value.type "zip" == Value.type "list") = false by decide, show (Value.type "zip" == Value.type "tuple") = false by decide, Bool.or_false, Bool.false_eq_true, if_false]
  refine wpAny_bind (wpAny_pyIter_zip hz (wpAny_bind (wpAny_holding ?_)))
  unfold Builtin.List.listLengthHint
  refine wpAny_bind (wpAny_specialOf hT nolen_zip ?_)
  show wpAny _ A.in1 (specialOf (Value.ref z) (Str.ofString "__length_hint__") >>= _) _ _ s
  refine wpAny_bind (wpAny_specialOf hT nohint_zip (wpAny_pure ?_))
  show wpAny _ A.in1 (rule "list.extend.makes-room" >>= fun _ => Builtin.List.listTouch (.ref S) >>= fun _ => again (.builtin "list.extend.loop" ⟨[.ref S, .ref z, res], []⟩)) _ _ s
  refine wpAny_bind (wpAny_rule (wpAny_bind ?_))
  show wpAny _ A.in1 (updateSeq S (·.push .none) >>= fun _ => updateSeq S (·.pop)) _ _ s
  have hS2 := Heap.get?_update_self (Obj.mapSeq (·.push Value.none)) hS rfl
  refine wpAny_bind (wpAny_updateSeq hS rfl (wpAny_updateSeq (hz := by seq_fits) hS2 rfl ?_))
  have oth : ∀ b o, b ≠ S → s.heap.get? b = some o → ((s.heap.update S (Obj.mapSeq (·.push Value.none))).update S (Obj.mapSeq (·.pop))).get? b = some o := fun b o hb e => (Heap.get?_update_other _ _ (Ne.symm hb)).trans ((Heap.get?_update_other _ _ (Ne.symm hb)).trans e)
  exact wpAny_pure ⟨plainId_quiet PySem.F.plain_extend_loop _, z_loop Z hh hlt hn res (h1 := s.heap) hR _ 0 _ _ _ #[] [] rfl (Nat.zero_le _) (hst.keep Z oth) (fun b o c1 _ _ _ _ e => oth b o c1 e) (Heap.get?_update_self _ hS2 rfl) rfl rfl ⟨List.nodup_nil, (fun _ q => nomatch q), fun j a q => by simp at q⟩ (by simp)⟩
theorem z_call {Q : Value → Shared → Prop} {E : Value → Shared → Prop} (D : ZipApart z TI TO i1 i2 l1 l2) (hh : A.handled = none) (hz : IsZip s.heap z TI TO .none) (hti : IsPair s.heap TI (.ref i1) (.ref i2)) (hto : ∃ a b, IsPair s.heap TO a b) (ha1 : s.heap.IsListIter i1 l1 0) (ha2 : s.heap.IsListIter i2 l2 0) (hb1 : s.heap.IsList l1 xs) (hb2 : s.heap.IsList l2 ys) (hn : min xs.size ys.size ≤ sizeLine)
    (hQ : ∀ h' tk acc c as, (∀ b o, b ≠ z → b ≠ TO → b ≠ i1 → b ≠ i2 → s.heap.get? b = some o → h'.get? b = some o) → h'.get? s.heap.objs.size = some { cls := .type "list", dict := none, data := .seq acc c, slots := #[] } → as.length = min xs.size ys.size → ZGot xs ys (s.heap.objs.size + 1) h' as → acc.toList = as.map Value.ref → Q (.ref s.heap.objs.size) { s with heap := h', toks := tk }) :
    wpAny (model prog w) A (call (.type "list") [.ref z]) Q E s := by
  obtain ⟨ta, tb, hto⟩ := hto
  refine callType_codes (Q₁ := fun obj s1 => obj = .ref s.heap.objs.size ∧ s1 = { s with heap := s.heap.push { cls := .type "list", data := .seq #[] } }) F.called_list (F.typeCall_list_1 _) F.entry_list_init (code_list_new _ ⟨rfl, rfl⟩) fun obj s1 e1 => ?_
  obtain ⟨rfl, rfl⟩ := e1
  have hS : (s.heap.push { cls := .type "list", data := .seq #[] }).get? s.heap.objs.size = some { cls := .type "list", data := .seq #[] } := Heap.get?_push_size _ rfl
  have lt : ∀ {c o}, s.heap.get? c = some o → s.heap.objs.size ≠ c := fun e => Nat.ne_of_gt (Heap.lt_size e)
  have Z : ZSep z TI TO i1 i2 l1 l2 s.heap.objs.size := ⟨D, lt hz, lt hti, lt hto, (by obtain ⟨_, e, _⟩ := ha1; exact lt e), (by obtain ⟨_, e, _⟩ := ha2; exact lt e), (by obtain ⟨_, e, _⟩ := hb1; exact lt e), (by obtain ⟨_, e, _⟩ := hb2; exact lt e)⟩
  have st : ZAt z TI TO i1 i2 l1 l2 s.heap.objs.size xs ys 0 (s.heap.push { cls := .type "list", data := .seq #[] }) := ⟨Heap.get?_push_of_some _ hti, ha1.at fun o e => Heap.get?_push_of_some _ e, ha2.at fun o e => Heap.get?_push_of_some _ e, hb1.at fun o e => Heap.get?_push_of_some _ e, hb2.at fun o e => Heap.get?_push_of_some _ e, .inl ⟨Heap.get?_push_of_some _ hz, ta, tb, Heap.get?_push_of_some _ hto⟩⟩
  refine ⟨⟨_, hS, rfl⟩, F.args_list_init_2 _ _, ?_⟩
  show wpAny _ A.in1.in1 (do let old ← Builtin.List.listItems (.ref s.heap.objs.size); Builtin.List.listUpdate (.ref s.heap.objs.size) (fun _ => #[]); letGo old.toList.reverse; Builtin.List.listExtendWith (.ref s.heap.objs.size) (.ref z) .none) _ _ _
  refine wpAny_bind ?_
  unfold Builtin.List.listItems
  refine wpAny_bind (wpAny_seqItems hS rfl (wpAny_pure ?_))
  show wpAny _ A.in1.in1 (updateSeq s.heap.objs.size (fun _ => #[]) >>= fun _ => letGo (#[] : Array Value).toList.reverse >>= fun _ => Builtin.List.listExtendWith (.ref s.heap.objs.size) (.ref z) .none) _ _ _
  have hS2 := Heap.get?_update_self (Obj.mapSeq (fun _ => (#[] : Array Value))) hS rfl
  have oth : ∀ b o, b ≠ s.heap.objs.size → (s.heap.push { cls := .type "list", data := .seq #[] }).get? b = some o → ((s.heap.push { cls := .type "list", data := .seq #[] }).update s.heap.objs.size (Obj.mapSeq (fun _ => (#[] : Array Value)))).get? b = some o := fun b o hb e => (Heap.get?_update_other _ _ (Ne.symm hb)).trans e
  have hzl : ((s.heap.push { cls := .type "list", data := .seq #[] }).update s.heap.objs.size (Obj.mapSeq (fun _ => (#[] : Array Value)))).objs.size = s.heap.objs.size + 1 := by simp [Heap.size_push]
  have l1' : ∀ {c o}, s.heap.get? c = some o → c < s.heap.objs.size + 1 := fun e => Nat.lt_succ_of_lt (Heap.lt_size e)
  refine wpAny_bind (wpAny_updateSeq hS rfl (wpAny_bind (wpAny_letGo (z_extend (A := A.in1) Z hh (st.keep Z oth) (oth _ _ Z.sz.symm (Heap.get?_push_of_some _ hz)) hn ?_ .none _ hS2 fun h' tk acc c as hk hl hlen hG hacc => ⟨rfl, hQ h' tk acc c as (fun b o c2 c3 c4 c5 e => hk b o (lt e).symm c2 c3 c4 c5 (oth b o (lt e).symm (Heap.get?_push_of_some _ e))) hl hlen ?_ hacc⟩))))
  · dsimp only; rw [hzl]
    exact ⟨Nat.lt_succ_self _, l1' hz, l1' hto, (by obtain ⟨_, e, _⟩ := ha1; exact l1' e), (by obtain ⟨_, e, _⟩ := ha2; exact l1' e)⟩
  · dsimp only at hG; rw [hzl] at hG; exact hG
end
/-! the tuples tracked -/
def putP : Hp → List Addr → List (V × V) → Hp
  | H, a :: as, p :: ps => putP (upd H a (.tup [p.1, p.2])) as ps
  | H, _, _ => H
theorem putP_off {b : Addr} : ∀ (as : List Addr) (ps : List (V × V)) (H : Hp), b ∉ as → putP H as ps b = H b
  | [], _, _, _ => rfl
  | _ :: _, [], _, _ => rfl
  | a :: as, p :: ps, H, h => by
    rw [List.mem_cons, not_or] at h
    show putP (upd H a (.tup [p.1, p.2])) as ps b = _
    rw [putP_off as ps _ h.2, upd_ne h.1]
theorem putP_at : ∀ (as : List Addr) (ps : List (V × V)) (H : Hp), as.Nodup → as.length = ps.length → ∀ (j : Nat) (a : Addr), as[j]? = some a → ∃ p, ps[j]? = some p ∧ putP H as ps a = some (.tup [p.1, p.2])
  | [], [], _, _, _, j, a, e => by simp at e
  | [], _ :: _, _, _, h, _, _, _ => by cases h
  | _ :: _, [], _, _, h, _, _, _ => by cases h
  | b :: as, p :: ps, H, hn, h, 0, a, e => by
    have e : b = a := by simpa using e
    subst e
    refine ⟨p, rfl, ?_⟩
    show putP (upd H b (.tup [p.1, p.2])) as ps b = _
    rw [putP_off as ps _ (List.nodup_cons.mp hn).1, upd_same]
  | b :: as, p :: ps, H, hn, h, j + 1, a, e => by
    obtain ⟨q, e1, e2⟩ := putP_at as ps (upd H b (.tup [p.1, p.2])) (List.nodup_cons.mp hn).2 (by simpa using h) j a (by simpa using e)
    exact ⟨q, by simpa using e1, e2⟩
theorem vals_refs : ∀ as : List Addr, Vals (as.map V.ref) (as.map Value.ref)
  | [] => .nil
  | _ :: as => .cons rfl (vals_refs as)
/-- list(zip(xs, ys)) -/
def rLZ (K : Fr) : List V → Hp → VK → Prop := fun vs H Q => ∃ a b xs ys, vs = [.ref a, .ref b] ∧ SqL K H a xs ∧ SqL K H b ys ∧ ∀ (p : Addr) (ts : List Addr), H p = none → (∀ t ∈ ts, H t = none) → p ∉ ts → ts.Nodup → ts.length = (xs.zip ys).length → Q (.ref p) (upd (putP H ts (xs.zip ys)) p (.lst (ts.map V.ref)))
def tLZ (K : Fr) (ta : TA) : TE := fun σ H Q => ta σ H fun vs H1 => rLZ K vs H1 Q
section
variable {X : Cx} {g : G} {E : EX} {K : Fr}
theorem pe_lz {e e2 : Expr} {ta : TA} {p q pos pos2 : Pos} (hc : X.calm = true) (hg : Gl X "zip") (hm : X.mg "zip" = none) (hgl : Gl X "list") (hml : X.mg "list" = none) (ha : PA X [e, e2] ta)
    (hs : starEach [e, e2] X.env = (false, eval e X.env) :: starEach [e2] X.env := by rfl) (hpl : (backTo pos2 (starEach [e2] X.env)).any (·.1) = false := by rfl)
    (hs2 : starEach [.Call (.Name "zip" q) [e, e2] [] pos2] X.env = (false, eval (.Call (.Name "zip" q) [e, e2] [] pos2) X.env) :: starEach [] X.env := by rfl) :
    PE X (.Call (.Name "list" p) [.Call (.Name "zip" q) [e, e2] [] pos2] [] pos) (tLZ X.K ta) := by
  refine ⟨fun pins s σ H Q I h => Call_ (ld_blt I hgl hml bl_list (PyProof.Rows.callWith_type1 ?_ hs2 rfl))⟩
  rw [hs2]
  refine Calls.spliced_cons (Call_ (ld_blt I hg hm PyProof.Rows.boot_zip (PyProof.Rows.callWith_type1 (thn (ha.run pos2 pins s σ H _ I h) fun us s1 ⟨vs, H1, I1, r1, a, b, xs, ys, ex, hqa, hqb, qq⟩ => ?_) hs hpl)))
  subst ex
  cases r1 with | cons ra r1 =>
  cases r1 with | cons rb r1 =>
  cases r1; cases ra; cases rb
  obtain ⟨its, rv, p1, z1⟩ := I1.list hqa
  obtain ⟨its2, rv2, p2, z2⟩ := I1.list hqb
  refine call_zip_2 p1.isList p2.isList fun h' hz hTI hTO e1 e2 hsz hk => Calls.spliced_nil ?_
  have D := PySem.W.ktu_apart s1.heap.objs.size a b p1.lt p2.lt
  refine z_call (s := { s1 with heap := h' }) D (I1.ok.hd hc) hz hTI ⟨_, _, hTO⟩ e1 e2 (p1.isList.at fun o e => hk _ o e) (p2.isList.at fun o e => hk _ o e) ?_ fun h2 tk acc c as hk2 hl hlen hG hacc => ?_
  · rw [List.size_toArray, List.size_toArray, ← rv.length]; omega
  dsimp only at hk2 hl hG ⊢
  have low : ∀ b o, s1.heap.get? b = some o → b < s1.heap.objs.size := fun b o e => Heap.lt_size e
  have keep : ∀ b o, s1.heap.get? b = some o → h2.get? b = some o := fun b o e => by
    have q := low b o e
    exact hk2 b o (Nat.ne_of_lt (Nat.lt_add_right 4 q)) (Nat.ne_of_lt (Nat.lt_add_right 3 q)) (Nat.ne_of_lt q) (Nat.ne_of_lt (Nat.lt_add_right 1 q)) (hk b o e)
  have hlz : as.length = (xs.zip ys).length := by rw [hlen, List.size_toArray, List.size_toArray, List.length_zip, rv.length, rv2.length]
  have nS : h'.objs.size ∉ as := fun q => absurd (hG.ge _ q) (Nat.not_le.mpr (Nat.lt_succ_self _))
  have hs5 : s1.heap.objs.size ≤ h'.objs.size := by rw [hsz]; exact Nat.le_add_right _ _
  have hnew : ∀ t ∈ as, H1 t = none := fun t ht => I1.hok.fresh (Nat.le_trans (Nat.le_succ_of_le hs5) (hG.ge t ht))
  have hnS : H1 h'.objs.size = none := I1.hok.fresh hs5
  have off : ∀ b, b ∉ as → b ≠ h'.objs.size → (upd (putP H1 as (xs.zip ys)) h'.objs.size (.lst (as.map V.ref))) b = H1 b := fun b c1 c2 => by rw [upd_ne c2, putP_off as _ _ c1]
  have lowA : ∀ b o, s1.heap.get? b = some o → b ∉ as ∧ b ≠ h'.objs.size := fun b o e => ⟨fun q => absurd (Nat.lt_of_lt_of_le (low b o e) (Nat.le_trans (Nat.le_succ_of_le hs5) (hG.ge _ q))) (Nat.lt_irrefl _), Nat.ne_of_lt (Nat.lt_of_lt_of_le (low b o e) hs5)⟩
  have kp : ∀ b u, H1 b = some u → (upd (putP H1 as (xs.zip ys)) h'.objs.size (.lst (as.map V.ref))) b = some u := fun b u e => by
    rw [off b (fun q => by rw [hnew b q] at e; cases e) fun q => by rw [q, hnS] at e; cases e]; exact e
  refine ⟨.ref h'.objs.size, _, ?_, rfl, qq _ as hnS hnew nS hG.nd hlz⟩
  refine I1.call' (ch := []) rfl ⟨fun b o q _ _ _ => keep b o q, fun b o q _ _ _ => ⟨o.slots, keep b o q⟩, fun b o q n _ => ?_, fun b o q _ => ⟨o, keep b o q⟩, fun b ws q => kp b _ q, fun b o u q => kp b _ q, fun b ps q => ⟨#[], by rw [kp b _ q]; simp⟩⟩ (fun b u q => ?_) I1.bare fun b q => by simp at q
  · obtain ⟨c1, c2⟩ := lowA b o q
    rw [off b c1 c2]; exact n
  · by_cases c2 : b = h'.objs.size
    · subst c2
      rw [upd_same] at q; cases q
      refine ⟨by rw [List.length_map, hlen, List.size_toArray, List.size_toArray, ← rv.length]; omega, acc.toList, c, by rw [hacc]; exact vals_refs as, by rw [Array.toArray_toList]; exact hl⟩
    · by_cases c1 : b ∈ as
      · obtain ⟨j, hj⟩ := List.mem_iff_getElem?.mp c1
        obtain ⟨pq, f1, f2⟩ := putP_at as (xs.zip ys) H1 hG.nd hlz j b hj
        rw [upd_ne c2, f2] at q; cases q
        obtain ⟨x, y, g1, g2, g3⟩ := hG.at' j b hj
        obtain ⟨k1, k2⟩ := List.getElem?_zip_eq_some.mp f1
        obtain ⟨u1, w1, v1⟩ := rv.get k1
        obtain ⟨u2, w2, v2⟩ := rv2.get k2
        have e1 : u1 = x := by have q : its[j]? = some x := by simpa using g1
                               rw [w1] at q; exact Option.some.inj q
        have e2 : u2 = y := by have q : its2[j]? = some y := by simpa using g2
                               rw [w2] at q; exact Option.some.inj q
        subst e1 e2
        exact ⟨by show 2 ≤ sizeLine; decide, [u1, u2], .cons v1 (.cons v2 .nil), ⟨_, g3, rfl, _, rfl⟩⟩
      · rw [off b c1 c2] at q
        exact (I1.hok b u q).stay (fun d v _ y => keep d v y) (fun d y => kp d _ y) fun d ws y => kp d _ y
/-! soundness -/
theorem S.Ok.tups {s : S} : ∀ (ts : List Addr) (ps : List (V × V)) {F H : Hp}, (S.mk F H s.W s.σ s.ρ).Ok g → Go s ⟨F, H, s.W, s.σ, s.ρ⟩ → (∀ t ∈ ts, H t = none) → ts.Nodup → (S.mk (putP F ts ps) (putP H ts ps) s.W s.σ s.ρ).Ok g ∧ Go s ⟨putP F ts ps, putP H ts ps, s.W, s.σ, s.ρ⟩
  | [], _, F, H, ok, go, _, _ => ⟨ok, go⟩
  | _ :: _, [], F, H, ok, go, _, _ => ⟨ok, go⟩
  | t :: ts, p :: ps, F, H, ok, go, hn, nd => by
    obtain ⟨o1, o2⟩ := S.Ok.new (o := .tup [p.1, p.2]) ok (hn t List.mem_cons_self)
    have nd' := List.nodup_cons.mp nd
    exact S.Ok.tups ts ps o1 (go.trans o2) (fun u hu => by
      rw [upd_ne fun e => nd'.1 (by rw [← e]; exact hu)]; exact hn u (List.mem_cons_of_mem _ hu)) nd'.2
theorem Ex.putP : ∀ (ts : List Addr) (ps : List (V × V)) {F : Hp}, (∀ t ∈ ts, F t = none) → ts.Nodup → Ex F (DL.putP F ts ps)
  | [], _, F, _, _ => .refl _
  | _ :: _, [], F, _, _ => .refl _
  | t :: ts, p :: ps, F, hn, nd => by
    have nd' := List.nodup_cons.mp nd
    exact (Ex.new (hn t List.mem_cons_self)).trans (Ex.putP ts ps (fun u hu => by
      rw [upd_ne fun e => nd'.1 (by rw [← e]; exact hu)]; exact hn u (List.mem_cons_of_mem _ hu)) nd'.2)
theorem repL_tups {F : Hp} : ∀ (ts : List Addr) (vs ws : List V) (ds es : List PyData), RepL K F vs ds → RepL K F ws es → ts.length = (vs.zip ws).length → (∀ (j : Nat) (a : Addr), ts[j]? = some a → ∃ p, (vs.zip ws)[j]? = some p ∧ F a = some (.tup [p.1, p.2])) → RepL K F (ts.map V.ref) (zipD ds es)
  | [], [], ws, _, es, .nil, _, _, _ => by cases es <;> exact .nil
  | [], v :: vs, [], d :: ds, _, .cons _ _, .nil, _, _ => .nil
  | [], v :: vs, w :: ws, _, _, _, _, h, _ => by simp at h
  | t :: ts, [], ws, _, _, _, _, h, _ => by simp at h
  | t :: ts, v :: vs, [], _, _, _, _, h, _ => by simp at h
  | t :: ts, v :: vs, w :: ws, d :: ds, e :: es, .cons r1 r2, .cons q1 q2, h, hat => by
    obtain ⟨p, h1, h2⟩ := hat 0 t rfl
    have h1 : (v, w) = p := by simpa using h1
    subst h1
    exact .cons (.tup (sqT_of h2) (.cons r1 (.cons q1 .nil))) (repL_tups ts vs ws ds es r2 q2 (by simpa using h) fun j a ha => by
      obtain ⟨p, h1, h2⟩ := hat (j + 1) a (by simpa using ha)
      exact ⟨p, by simpa using h1, h2⟩)
def aLZ (a : AD) : AE := fun ρ => (a ρ).bind fun ds ρ1 => match ds with
  | [.list l1, .list l2] => .ok (.list (zipD l1 l2)) ρ1
  | _ => .bad
theorem se_lz {ta : TA} {a : AD} (ha : SD g E ta a) : SE g E (tLZ g.K ta) (aLZ a) := fun s Q ok h =>
  ha s _ ok ((Aft.bind h).mono fun ds F1 H1 W1 ρ1 ok1 go1 h1 vs rs => by
    dsimp only at h1
    split at h1
    · cases rs with | cons r1 r2 =>
      cases r2 with | cons r2 r3 =>
      cases r3
      cases r1 with | lst hA rA =>
      cases r2 with | lst hB rB =>
      rename_i vA b vB
      refine ⟨_, _, vA, vB, rfl, sqL_of (ok1.ex _ _ hA), sqL_of (ok1.ex _ _ hB), fun p ts hp hts hpn nd hl => ?_⟩
      obtain ⟨o1, o2⟩ := S.Ok.tups (s := ⟨F1, H1, W1, s.σ, ρ1⟩) ts (vA.zip vB) ok1 (Go.refl _) hts nd
      obtain ⟨o3, o4⟩ := S.Ok.new (o := .lst (ts.map V.ref)) (p := p) o1 (by show putP H1 ts _ p = none; rw [putP_off ts _ _ hpn]; exact hp)
      have go := o2.trans o4
      refine h1 _ _ W1 o3 go _ (.lst upd_same ?_)
      have e1 : Ex F1 (upd (putP F1 ts (vA.zip vB)) p (.lst (ts.map V.ref))) := go.f
      refine repL_tups ts vA vB _ _ (rA.mono e1) (rB.mono e1) hl fun j a ha' => ?_
      obtain ⟨q, q1, q2⟩ := putP_at ts (vA.zip vB) F1 nd hl j a ha'
      exact ⟨q, q1, (upd_ne fun e => hpn (by rw [← e]; exact List.mem_of_getElem? ha')).trans q2⟩
    · exact h1.elim)
end
end DL

/-! enumerate(zip(xs, ys)) over two lists -/
namespace DL
open PySem PySem.Spec PyProof.Rows L2
/-- a zip's record: what it gave out, whether that is known to be out -/
abbrev ZRec (h : Heap) (z TI TO : Addr) (f0 : Value) (f : Bool) : Prop := h.get? z = some { cls := .type "zip", dict := none, data := .fields #[f0, .bool f, .bool false, .ref TI, .ref TO], slots := #[] }
def Gone (h : Heap) (f0 : Value) : Prop := f0 = .none ∨ ∃ T : Addr, f0 = rawInt T ∧ h.get? T = none
section
variable {prog : Program} {w : World} {A : Around} {E : Value → Shared → Prop} {s : Shared} {z TI TO i1 i2 l1 l2 : Addr} {f0 : Value} {f : Bool} {k1 k2 : Nat} {xs ys : Array Value} {x y a b : Value}
theorem z_dead {a : Addr} {Q : Option Obj → Shared → Prop} (ho : s.heap.get? a = none) (h : Q none s) : wpAny (model prog w) A (loadIfAlive a) Q E s := by
  have q : Q (s.heap.get? a) s := by rw [ho]; exact h
  exact fun _ _ _ => q
theorem z_free {Q : Bool → Shared → Prop} (hz : ZRec s.heap z TI TO f0 f) (hg : Gone s.heap f0) (h : Q true s) : wpAny (model prog w) A (Builtin.SmallTypes.ownedTupleIsFree (.ref z)) Q E s := by
  unfold Builtin.SmallTypes.ownedTupleIsFree
  rcases hg with rfl | ⟨T, rfl, hT⟩
  · exact wpAny_bind (wpAny_field hz rfl (x := .none) rfl (wpAny_pure h))
  · refine wpAny_bind (wpAny_field hz rfl (x := rawInt T) rfl ?_)
    show wpAny _ _ (loadIfAlive ((T : Int).toNat) >>= _) _ _ s
    rw [Int.toNat_natCast]
    exact wpAny_bind (z_dead hT (wpAny_pure h))
theorem z_nextF {Q : Value → Shared → Prop} (D : ZipApart z TI TO i1 i2 l1 l2) (hz : ZRec s.heap z TI TO f0 f) (hg : Gone s.heap f0) (hTI : IsPair s.heap TI (.ref i1) (.ref i2)) (hTO : IsPair s.heap TO a b) (h1 : s.heap.IsListIter i1 l1 k1) (h2 : s.heap.IsListIter i2 l2 k2) (hl1 : s.heap.IsList l1 xs) (hl2 : s.heap.IsList l2 ys) (hx : xs[k1]? = some x) (hy : ys[k2]? = some y)
    (hQ : ∀ h', ZRec h' z TI TO (rawInt s.heap.objs.size) false → IsPair h' TO x y → h'.IsListIter i1 l1 (k1 + 1) → h'.IsListIter i2 l2 (k2 + 1) → IsPair h' s.heap.objs.size x y → h'.objs.size = s.heap.objs.size + 1 → (∀ c o, c ≠ z → c ≠ TO → c ≠ i1 → c ≠ i2 → s.heap.get? c = some o → h'.get? c = some o) → Q (.ref s.heap.objs.size) { s with heap := h' }) :
    wpAny (model prog w) A (Builtin.«zip.__next__» ⟨[.ref z], []⟩) (fun fin s' => ∃ v, fin = .done (.ret v) ∧ Q v s') E s := by
  show wpAny _ _ (field (.ref z) 2 >>= _) _ _ s
  refine wpAny_bind (wpAny_field hz rfl (x := .bool false) rfl ?_); show wpAny _ _ (field (.ref z) 3 >>= _) _ _ s
  refine wpAny_bind (wpAny_field hz rfl (x := .ref TI) rfl (wpAny_bind (wpAny_seqItems hTI rfl ?_))); show wpAny _ _ (Builtin.SmallTypes.ownedTupleIsFree (.ref z) >>= _) _ _ s
  refine wpAny_bind (z_free hz hg ?_); simp only [if_true]
  refine wpAny_bind (wpAny_rule (wpAny_bind (wpAny_field hz rfl (x := .ref TO) rfl (wpAny_bind (wpAny_setField_rec hz (by simp) fun g1 z1 b1 => ?_)))))
  have z1 : ZRec g1 z TI TO .ellipsis f := z1
  refine wpAny_bind ?_; simp only [List.zipIdx_cons, List.zipIdx_nil, List.forIn_cons, List.forIn_nil]; refine wpAny_bind (wpAny_bind (wpAny_onRaise ?_))
  show wpAny _ _ (Builtin.SmallTypes.nextOf (.ref i1) >>= _) _ _ { s with heap := g1 }
  refine wpAny_bind (wpAny_nextOf_list_item (s := { s with heap := g1 }) (h1.extBut b1.extBut D.i1z) (hl1.extBut b1.extBut D.l1z) hx fun g2 j2 b2 => wpAny_pure ?_)
  have t2 : IsPair g2 TO a b := b2.extBut _ _ D.TOi1 (b1.extBut _ _ D.TOz hTO)
  refine wpAny_bind (wpAny_seqItems (s := { s with heap := g2 }) t2 rfl (wpAny_bind (wpAny_updateSeq_pair (s := { s with heap := g2 }) t2 fun g3 t3 b3 => ?_)))
  have t3 : IsPair g3 TO x b := t3
  refine wpAny_bind (wpAny_letGo (wpAny_pure (wpAny_bind (wpAny_bind (wpAny_onRaise ?_)))))
  show wpAny _ _ (Builtin.SmallTypes.nextOf (.ref i2) >>= _) _ _ { s with heap := g3 }
  refine wpAny_bind (wpAny_nextOf_list_item (s := { s with heap := g3 }) (((h2.extBut b1.extBut D.i2z).extBut b2.extBut D.i12.symm).extBut b3.extBut D.TOi2.symm) (((hl2.extBut b1.extBut D.l2z).extBut b2.extBut D.l2i1).extBut b3.extBut D.l2TO) hy fun g4 j4 b4 => wpAny_pure ?_)
  have t4 : IsPair g4 TO x b := b4.extBut _ _ D.TOi2 t3
  refine wpAny_bind (wpAny_seqItems (s := { s with heap := g4 }) t4 rfl (wpAny_bind (wpAny_updateSeq_pair (s := { s with heap := g4 }) t4 fun g5 t5 b5 => ?_)))
  have t5 : IsPair g5 TO x y := t5
  refine wpAny_bind (wpAny_letGo (wpAny_pure (wpAny_pure (wpAny_bind (wpAny_seqItems (s := { s with heap := g5 }) t5 rfl (wpAny_bind (wpAny_newTuple ?_)))))))
  have hsz : g5.objs.size = s.heap.objs.size := (((b5.1.trans b4.1).trans b3.1).trans b2.1).trans b1.1
  have z5 : ZRec g5 z TI TO .ellipsis f := b5.extBut _ _ D.TOz.symm (b4.extBut _ _ D.i2z.symm (b3.extBut _ _ D.TOz.symm (b2.extBut _ _ D.i1z.symm z1)))
  have k5 : ∀ c o, c ≠ z → c ≠ TO → c ≠ i1 → c ≠ i2 → s.heap.get? c = some o → g5.get? c = some o := fun c o c1 c2 c3 c4 e => b5.extBut _ _ c2 (b4.extBut _ _ c4 (b3.extBut _ _ c2 (b2.extBut _ _ c3 (b1.extBut _ _ c1 e))))
  have j5 : g5.IsListIter i1 l1 (k1 + 1) := ((j2.extBut b3.extBut D.TOi1.symm).extBut b4.extBut D.i12).extBut b5.extBut D.TOi1.symm
  have m5 : g5.IsListIter i2 l2 (k2 + 1) := j4.extBut b5.extBut D.TOi2.symm
  have zl : z ≠ g5.objs.size := Nat.ne_of_lt (Heap.lt_size z5)
  show wpAny _ _ (Builtin.SmallTypes.ownedTupleHandOut (.ref z) (.ref g5.objs.size) >>= _) _ _ { s with heap := g5.push { cls := .type "tuple", data := .seq #[x, y] } }
  refine wpAny_bind ?_
  unfold Builtin.SmallTypes.ownedTupleHandOut
  have z6 : ZRec (g5.push { cls := .type "tuple", data := .seq #[x, y] }) z TI TO .ellipsis f := Heap.get?_push_of_some _ z5
  refine wpAny_bind (wpAny_setField_rec (s := { s with heap := g5.push { cls := .type "tuple", data := .seq #[x, y] } }) z6 (by simp) fun g7 z7 b7 => ?_)
  have z7 : ZRec g7 z TI TO (rawInt g5.objs.size) f := z7
  refine wpAny_setField_rec (s := { s with heap := g7 }) z7 (by simp) fun g8 z8 b8 => ?_
  have z8 : ZRec g8 z TI TO (rawInt g5.objs.size) false := z8
  have up : ∀ c o, c ≠ z → g5.get? c = some o → g8.get? c = some o := fun c o c1 e => b8.extBut _ _ c1 (b7.extBut _ _ c1 (Heap.get?_push_of_some _ e))
  have t8 : IsPair g8 g5.objs.size x y := b8.extBut _ _ zl.symm (b7.extBut _ _ zl.symm (Heap.get?_push_size _ rfl))
  have s8 : g8.objs.size = g5.objs.size + 1 := by rw [b8.1, b7.1, Heap.size_push]
  rw [hsz] at z8 t8 s8
  refine wpAny_pure ⟨_, rfl, ?_⟩
  show Q (.ref g5.objs.size) { s with heap := g8 }
  rw [hsz]
  exact hQ g8 z8 (up _ _ D.TOz t5) (j5.at fun o e => up _ o D.i1z e) (m5.at fun o e => up _ o D.i2z e) t8 s8 fun c o c1 c2 c3 c4 e => up c o c1 (k5 c o c1 c2 c3 c4 e)
theorem z_endF {Q : Fin → Shared → Prop} (hh : A.handled = none) (D : ZipApart z TI TO i1 i2 l1 l2) (hz : ZRec s.heap z TI TO f0 f) (hg : Gone s.heap f0) (hTI : IsPair s.heap TI (.ref i1) (.ref i2)) (hTO : IsPair s.heap TO a b) (h1 : s.heap.IsListIter i1 l1 k1) (h2 : s.heap.IsListIter i2 l2 k2) (hl1 : s.heap.IsList l1 xs) (hl2 : s.heap.IsList l2 ys) (hend : xs[k1]? = none ∨ ys[k2]? = none)
    (hE : ∀ h' e, (∀ c o, c ≠ z → c ≠ TO → c ≠ i1 → c ≠ i2 → s.heap.get? c = some o → h'.get? c = some o) → (∃ o, h'.get? e = some o ∧ o.cls = .type "StopIteration") → E (.ref e) { s with heap := h' }) :
    wpAny (model prog w) A (Builtin.«zip.__next__» ⟨[.ref z], []⟩) Q E s := by
  show wpAny _ _ (field (.ref z) 2 >>= _) _ _ s
  refine wpAny_bind (wpAny_field hz rfl (x := .bool false) rfl ?_); show wpAny _ _ (field (.ref z) 3 >>= _) _ _ s
  refine wpAny_bind (wpAny_field hz rfl (x := .ref TI) rfl (wpAny_bind (wpAny_seqItems hTI rfl ?_))); show wpAny _ _ (Builtin.SmallTypes.ownedTupleIsFree (.ref z) >>= _) _ _ s
  refine wpAny_bind (z_free hz hg ?_); simp only [if_true]
  refine wpAny_bind (wpAny_rule (wpAny_bind (wpAny_field hz rfl (x := .ref TO) rfl (wpAny_bind (wpAny_setField_rec hz (by simp) fun g1 z1 b1 => ?_)))))
  have z1 : ZRec g1 z TI TO .ellipsis f := z1
  refine wpAny_bind ?_; simp only [List.zipIdx_cons, List.zipIdx_nil, List.forIn_cons, List.forIn_nil]; refine wpAny_bind (wpAny_bind (wpAny_onRaise ?_))
  show wpAny _ _ (Builtin.SmallTypes.nextOf (.ref i1) >>= _) _ _ { s with heap := g1 }
  cases hx : xs[k1]? with
  | none =>
    refine wpAny_bind (wpAny_nextOf_list_end (s := { s with heap := g1 }) hh (h1.extBut b1.extBut D.i1z) (hl1.extBut b1.extBut D.l1z) hx fun g2 e b2 ⟨oe, q1, q2⟩ => ?_)
    have z2 : ZRec g2 z TI TO .ellipsis f := b2 _ _ D.i1z.symm z1
    have ez : e ≠ z := fun x => by subst x; rw [z2] at q1; cases q1; simp at q2
    exact wpAny_setField_rec (s := { s with heap := g2 }) z2 (by simp) fun g3 _ b3 => hE g3 e (fun c o c1 _ c3 _ x => b3.extBut _ _ c1 (b2 _ _ c3 (b1.extBut _ _ c1 x))) ⟨oe, b3.extBut _ _ ez q1, q2⟩
  | some x =>
    have hy : ys[k2]? = none := by
      rcases hend with h | h
      · rw [hx] at h; cases h
      · exact h
    refine wpAny_bind (wpAny_nextOf_list_item (s := { s with heap := g1 }) (h1.extBut b1.extBut D.i1z) (hl1.extBut b1.extBut D.l1z) hx fun g2 j2 b2 => wpAny_pure ?_)
    have t2 : IsPair g2 TO a b := b2.extBut _ _ D.TOi1 (b1.extBut _ _ D.TOz hTO)
    refine wpAny_bind (wpAny_seqItems (s := { s with heap := g2 }) t2 rfl (wpAny_bind (wpAny_updateSeq_pair (s := { s with heap := g2 }) t2 fun g3 t3 b3 => wpAny_bind (wpAny_letGo (wpAny_pure (wpAny_bind (wpAny_bind (wpAny_onRaise ?_))))))))
    show wpAny _ _ (Builtin.SmallTypes.nextOf (.ref i2) >>= _) _ _ { s with heap := g3 }
    refine wpAny_bind (wpAny_nextOf_list_end (s := { s with heap := g3 }) hh (((h2.extBut b1.extBut D.i2z).extBut b2.extBut D.i12.symm).extBut b3.extBut D.TOi2.symm) (((hl2.extBut b1.extBut D.l2z).extBut b2.extBut D.l2i1).extBut b3.extBut D.l2TO) hy fun g4 e b4 ⟨oe, q1, q2⟩ => ?_)
    have z4 : ZRec g4 z TI TO .ellipsis f := b4 _ _ D.i2z.symm (b3.extBut _ _ D.TOz.symm (b2.extBut _ _ D.i1z.symm z1))
    have ez : e ≠ z := fun x => by subst x; rw [z4] at q1; cases q1; simp at q2
    exact wpAny_setField_rec (s := { s with heap := g4 }) z4 (by simp) fun g5 _ b5 => hE g5 e (fun c o c1 c2 c3 c4 x => b5.extBut _ _ c1 (b4 _ _ c4 (b3.extBut _ _ c2 (b2.extBut _ _ c3 (b1.extBut _ _ c1 x))))) ⟨oe, b5.extBut _ _ ez q1, q2⟩
/-- the zip between two turns -/
structure ZM (z TI TO i1 i2 l1 l2 : Addr) (i : Nat) (h : Heap) : Prop where
  ti : IsPair h TI (.ref i1) (.ref i2)
  to : ∃ a b, IsPair h TO a b
  a1 : h.IsListIter i1 l1 i
  a2 : h.IsListIter i2 l2 i
  zz : ∃ f0 f, ZRec h z TI TO f0 f ∧ (f0 = .none ∨ ∃ T : Addr, f0 = rawInt T)
theorem zm_next {i : Nat} {Q : Value → Shared → Prop} (D : ZipApart z TI TO i1 i2 l1 l2) (m : ZM z TI TO i1 i2 l1 l2 i s.heap) (hl1 : s.heap.IsList l1 xs) (hl2 : s.heap.IsList l2 ys) (hx : xs[i]? = some x) (hy : ys[i]? = some y)
    (hQ : ∀ h', ZM z TI TO i1 i2 l1 l2 (i + 1) h' → IsPair h' s.heap.objs.size x y → h'.objs.size = s.heap.objs.size + 1 → (∀ c o, c ≠ z → c ≠ TO → c ≠ i1 → c ≠ i2 → s.heap.get? c = some o → h'.get? c = some o) → Q (.ref s.heap.objs.size) { s with heap := h' }) :
    wpAny (model prog w) A (Builtin.SmallTypes.nextOf (.ref z)) Q E s := by
  obtain ⟨hTI, ⟨a, b, hTO⟩, h1, h2, f0, f, hz, hf⟩ := m
  have hT : s.TypeIs (.ref z) "zip" := ⟨_, hz, rfl⟩
  have key : wpAny (model prog w) A.in1 (Builtin.«zip.__next__» ⟨[.ref z], []⟩) (fun fin s' => ∃ v, fin = .done (.ret v) ∧ Q v s') E s := by
    have free : Gone s.heap f0 → wpAny (model prog w) A.in1 (Builtin.«zip.__next__» ⟨[.ref z], []⟩) (fun fin s' => ∃ v, fin = .done (.ret v) ∧ Q v s') E s := fun hg => z_nextF D hz hg hTI hTO h1 h2 hl1 hl2 hx hy fun h' q1 q2 q3 q4 q5 q6 hk => hQ h' ⟨hk _ _ D.TIz D.TITO D.TIi1 D.TIi2 hTI, ⟨_, _, q2⟩, q3, q4, _, _, q1, .inr ⟨_, rfl⟩⟩ q5 q6 hk
    rcases hf with rfl | ⟨T, rfl⟩
    · exact free (.inl rfl)
    · cases e : s.heap.get? T with
      | none => exact free (.inr ⟨T, rfl, e⟩)
      | some oT => exact zip_next_item_held D hz e hTI h1 h2 hl1 hl2 hx hy fun h' q1 q3 q4 q5 q6 hk => hQ h' ⟨hk _ _ D.TIz D.TIi1 D.TIi2 hTI, ⟨a, b, hk _ _ D.TOz D.TOi1 D.TOi2 hTO⟩, q3, q4, _, _, q1, .inr ⟨_, rfl⟩⟩ q5 q6 fun c o c1 _ c3 c4 e => hk c o c1 c3 c4 e
  unfold Builtin.SmallTypes.nextOf
  exact wpAny_bind (wpAny_callSpecial?_slot (name := Str.ofString "__next__") hT F.slot_zip_next (wpAny_call_entry F.slot_zip_next hT F.entry_zip_next (wpAny_mono key (fun fin s' ⟨v, e, q⟩ => ⟨v, e, wpAny_pure q⟩) fun _ _ e => e) (F.args_zip_next_1 _)))
theorem zm_end {i : Nat} {Q : Value → Shared → Prop} (hh : A.handled = none) (D : ZipApart z TI TO i1 i2 l1 l2) (m : ZM z TI TO i1 i2 l1 l2 i s.heap) (hl1 : s.heap.IsList l1 xs) (hl2 : s.heap.IsList l2 ys) (hend : xs[i]? = none ∨ ys[i]? = none)
    (hE : ∀ h' e, (∀ c o, c ≠ z → c ≠ TO → c ≠ i1 → c ≠ i2 → s.heap.get? c = some o → h'.get? c = some o) → (∃ o, h'.get? e = some o ∧ o.cls = .type "StopIteration") → E (.ref e) { s with heap := h' }) :
    wpAny (model prog w) A (Builtin.SmallTypes.nextOf (.ref z)) Q E s := by
  obtain ⟨hTI, ⟨a, b, hTO⟩, h1, h2, f0, f, hz, hf⟩ := m
  have hT : s.TypeIs (.ref z) "zip" := ⟨_, hz, rfl⟩
  have key : ∀ {R : Fin → Shared → Prop}, wpAny (model prog w) A.in1 (Builtin.«zip.__next__» ⟨[.ref z], []⟩) R E s := fun {R} => by
    have free : Gone s.heap f0 → wpAny (model prog w) A.in1 (Builtin.«zip.__next__» ⟨[.ref z], []⟩) R E s := fun hg => z_endF hh D hz hg hTI hTO h1 h2 hl1 hl2 hend hE
    rcases hf with rfl | ⟨T, rfl⟩
    · exact free (.inl rfl)
    · cases e : s.heap.get? T with
      | none => exact free (.inr ⟨T, rfl, e⟩)
      | some oT => exact zip_next_end_held hh D hz e hTI h1 h2 hl1 hl2 hend fun h' e hk he => hE h' e (fun c o c1 _ c3 c4 x => hk c o c1 c3 c4 x) he
  unfold Builtin.SmallTypes.nextOf
  exact wpAny_bind (wpAny_callSpecial?_slot (name := Str.ofString "__next__") hT F.slot_zip_next (wpAny_call_entry F.slot_zip_next hT F.entry_zip_next key (F.args_zip_next_1 _)))
/-- enumerate's next over a zip -/
theorem ez_next {e : Addr} {i : Nat} {old : Value} {Q : Option Value → Shared → Prop} (D : ZipApart z TI TO i1 i2 l1 l2) (he : IsEnum s.heap e z i old) (n : e ≠ z ∧ e ≠ TI ∧ e ≠ TO ∧ e ≠ i1 ∧ e ≠ i2) (m : ZM z TI TO i1 i2 l1 l2 i s.heap) (hl1 : s.heap.IsList l1 xs) (hl2 : s.heap.IsList l2 ys) (hx : xs[i]? = some x) (hy : ys[i]? = some y)
    (hQ : ∀ g1 h', (∀ c o, c ≠ z → c ≠ TO → c ≠ i1 → c ≠ i2 → s.heap.get? c = some o → g1.get? c = some o) → g1.objs.size = s.heap.objs.size + 1 → IsPair g1 s.heap.objs.size x y → ZM z TI TO i1 i2 l1 l2 (i + 1) h' → IsEnumOut h' e z ((i : Int) + 1) (.ref s.heap.objs.size) (s.heap.objs.size + 1) → h'.get? (s.heap.objs.size + 1) = some { cls := .type "tuple", data := .seq #[.int i s.toks, .ref s.heap.objs.size] } →
      (∀ c o, c ≠ e → g1.get? c = some o → h'.get? c = some o) → Q (some (.ref (s.heap.objs.size + 1))) { s with heap := h', toks := s.toks + 1 }) :
    wpAny (model prog w) A (pyNext (.ref e)) Q E s := by
  obtain ⟨nz, nTI, nTO, n1, n2⟩ := n
  have hT : s.TypeIs (.ref e) "enumerate" := ⟨_, he, rfl⟩
  unfold pyNext
  refine wpAny_bind (wpAny_attempt (wpAny_callSpecial?_slot (name := Str.ofString "__next__") hT F.slot_enumerate_next (wpAny_call_entry F.slot_enumerate_next hT F.entry_enumerate_next ?_ (F.args_enumerate_next_1 _))))
  show wpAny _ _ (field (.ref e) 2 >>= _) _ _ s
  refine wpAny_bind (wpAny_field he rfl (x := .ref z) rfl (wpAny_bind (zm_next D m hl1 hl2 hx hy fun g1 m1 t1 s1 k1 => ?_)))
  have e1 : IsEnum g1 e z i old := k1 _ _ nz nTO n1 n2 he
  show wpAny _ _ (field (.ref e) 3 >>= _) _ _ { s with heap := g1 }
  refine wpAny_bind (wpAny_field (s := { s with heap := g1 }) e1 rfl (x := rawInt i) rfl ?_); show wpAny _ _ (field (.ref e) 4 >>= _) _ _ { s with heap := g1 }
  refine wpAny_bind (wpAny_field (s := { s with heap := g1 }) e1 rfl (x := .none) rfl ?_); show wpAny _ _ (mkInt i >>= _) _ _ { s with heap := g1 }
  refine wpAny_bind (wpAny_mkInt ?_); show wpAny _ _ (setField (.ref e) 3 (rawInt ((i : Int) + 1)) >>= _) _ _ { s with heap := g1, toks := s.toks + 1 }
  refine wpAny_bind (wpAny_setField_rec (s := { s with heap := g1, toks := s.toks + 1 }) e1 (by simp) fun g2 e2 b2 => ?_)
  have e2 : IsEnum g2 e z ((i : Int) + 1) old := e2
  show wpAny _ _ (setField (.ref e) 4 .none >>= _) _ _ { s with heap := g2, toks := s.toks + 1 }
  refine wpAny_bind (wpAny_setField_rec (s := { s with heap := g2, toks := s.toks + 1 }) e2 (by simp) fun g3 e3 b3 => ?_)
  have e3 : IsEnum g3 e z ((i : Int) + 1) old := e3
  show wpAny _ _ (newTuple [.int i s.toks, .ref s.heap.objs.size] >>= _) _ _ { s with heap := g3, toks := s.toks + 1 }
  refine wpAny_bind (wpAny_newTuple ?_)
  have e4 : IsEnum (g3.push { cls := .type "tuple", data := .seq #[.int i s.toks, .ref s.heap.objs.size] }) e z ((i : Int) + 1) old := Heap.get?_push_of_some _ e3
  have s3 : g3.objs.size = s.heap.objs.size + 1 := (b3.1.trans b2.1).trans s1
  have t4 : (g3.push { cls := .type "tuple", data := .seq #[.int i s.toks, .ref s.heap.objs.size] }).get? (s.heap.objs.size + 1) = some { cls := .type "tuple", data := .seq #[.int i s.toks, .ref s.heap.objs.size] } := by rw [← s3]; exact Heap.get?_push_size _ rfl
  have k4 : ∀ c o, c ≠ e → g1.get? c = some o → (g3.push { cls := .type "tuple", data := .seq #[.int i s.toks, .ref s.heap.objs.size] }).get? c = some o := fun c o c1 q => Heap.get?_push_of_some _ (b3.extBut _ _ c1 (b2.extBut _ _ c1 q))
  generalize g3.push { cls := .type "tuple", data := .seq #[.int i s.toks, .ref s.heap.objs.size] } = g4 at e4 t4 k4
  show wpAny _ _ (Builtin.SmallTypes.ownedTupleIsFree (.ref e) >>= _) _ _ { s with heap := g4, toks := s.toks + 1 }
  rw [s3]
  refine wpAny_bind ?_
  unfold Builtin.SmallTypes.ownedTupleIsFree
  refine wpAny_bind (wpAny_field (s := { s with heap := g4, toks := s.toks + 1 }) e4 rfl (x := .none) rfl (wpAny_pure ?_)); simp only [if_true]
  refine wpAny_bind (wpAny_rule (wpAny_bind (wpAny_field (s := { s with heap := g4, toks := s.toks + 1 }) e4 rfl (x := old) rfl (wpAny_bind (wpAny_setField_rec (s := { s with heap := g4, toks := s.toks + 1 }) e4 (by simp) fun g5 e5 b5 => ?_)))))
  have e5 : IsEnum g5 e z ((i : Int) + 1) (.ref s.heap.objs.size) := e5
  show wpAny _ _ (Builtin.SmallTypes.ownedTupleHandOut (.ref e) (.ref (s.heap.objs.size + 1)) >>= _) _ _ { s with heap := g5, toks := s.toks + 1 }
  refine wpAny_bind ?_
  unfold Builtin.SmallTypes.ownedTupleHandOut
  refine wpAny_bind (wpAny_setField_rec (s := { s with heap := g5, toks := s.toks + 1 }) e5 (by simp) fun g6 e6 b6 => ?_)
  have e6 : IsEnumOut g6 e z ((i : Int) + 1) (.ref s.heap.objs.size) (s.heap.objs.size + 1) := e6
  refine wpAny_setField_rec (s := { s with heap := g6, toks := s.toks + 1 }) e6 (by simp) fun g7 e7 b7 => ?_
  have e7 : IsEnumOut g7 e z ((i : Int) + 1) (.ref s.heap.objs.size) (s.heap.objs.size + 1) := e7
  have k7 : ∀ c o, c ≠ e → g4.get? c = some o → g7.get? c = some o := fun c o c1 q => b7.extBut _ _ c1 (b6.extBut _ _ c1 (b5.extBut _ _ c1 q))
  have hel : e < s.heap.objs.size := Heap.lt_size he
  refine wpAny_bind (wpAny_letGo (wpAny_pure ⟨_, rfl, wpAny_pure (hQ g1 g7 k1 s1 t1 ?_ e7 (k7 _ _ (Nat.ne_of_gt (Nat.lt_succ_of_lt hel)) t4) fun c o c1 q => k7 c o c1 (k4 c o c1 q))⟩))
  obtain ⟨q1, ⟨a, b, q2⟩, q3, q4, f0, f, q5, q6⟩ := m1
  have kk : ∀ c o, c ≠ e → g1.get? c = some o → g7.get? c = some o := fun c o c1 q => k7 c o c1 (k4 c o c1 q)
  exact ⟨kk _ _ nTI.symm q1, ⟨a, b, kk _ _ nTO.symm q2⟩, q3.at fun o q => kk _ o n1.symm q, q4.at fun o q => kk _ o n2.symm q, f0, f, kk _ _ nz.symm q5, q6⟩
theorem ez_end {e : Addr} {i : Nat} {old : Value} {Q : Option Value → Shared → Prop} (hh : A.handled = none) (D : ZipApart z TI TO i1 i2 l1 l2) (he : IsEnum s.heap e z i old) (m : ZM z TI TO i1 i2 l1 l2 i s.heap) (hl1 : s.heap.IsList l1 xs) (hl2 : s.heap.IsList l2 ys) (hend : xs[i]? = none ∨ ys[i]? = none)
    (hQ : ∀ h', (∀ c o, c ≠ z → c ≠ TO → c ≠ i1 → c ≠ i2 → s.heap.get? c = some o → h'.get? c = some o) → Q none { s with heap := h' }) : wpAny (model prog w) A (pyNext (.ref e)) Q E s := by
  have hT : s.TypeIs (.ref e) "enumerate" := ⟨_, he, rfl⟩
  unfold pyNext
  refine wpAny_bind (wpAny_attempt (wpAny_callSpecial?_slot (name := Str.ofString "__next__") hT F.slot_enumerate_next (wpAny_call_entry F.slot_enumerate_next hT F.entry_enumerate_next ?_ (F.args_enumerate_next_1 _))))
  show wpAny _ _ (field (.ref e) 2 >>= _) _ _ s
  refine wpAny_bind (wpAny_field he rfl (x := .ref z) rfl (wpAny_bind (zm_end hh D m hl1 hl2 hend fun h' x hk ⟨o, ho, hc⟩ => ?_)))
  exact wpAny_bind (wpAny_isInstance (T := "StopIteration") (b := true) ⟨o, ho, hc⟩ isSubtype_stop (wpAny_pure (hQ _ hk)))
end
theorem meets_ez (z TI TO : Addr) : Meets (Builtin.«enumerate.__new__» ⟨[.type "enumerate", .ref z], []⟩) (fun _ R s => IsZip s.heap z TI TO .none ∧ R (.ok (.ret (.ref s.heap.objs.size))) { s with heap := s.heap.push { cls := .type "enumerate", data := .fields #[.none, .bool false, .ref z, rawInt 0, .none, .none] } }) :=
  .of_wp fun prog w A R s h => by
    obtain ⟨hp, g, d, tk, os⟩ := s
    obtain ⟨h1, h⟩ := h
    have hsub := sub_enumerate
    have q1 : ∀ {A' : Around} {E : Value → Shared → Prop} {Q : Value → Shared → Prop}, Q (.ref z) ⟨hp, g, d, tk, os⟩ → wpAny (model prog w) A' (pyIter (.ref z)) Q E ⟨hp, g, d, tk, os⟩ := fun q => wpAny_pyIter_zip h1 q
    wp_walk using q1; refine wpAny_stack_any fun st => wpAny_pure ?_
    split
    · rename_i c _ _ _ _ _
      cases (c == Value.type "enumerate") <;> (wp_walk using q1; exact ⟨_, rfl, h⟩)
    · wp_walk using q1; exact ⟨_, rfl, h⟩
/-- pairs (i, (x, y)) of what stands at a and at b -/
def Itez (K : Fr) (a b : Addr) : It :=
  ⟨fun i H => ∃ (xs ys : List V) (x y : V), SqL K H a xs ∧ SqL K H b ys ∧ xs[i]? = some x ∧ ys[i]? = some y,
    fun i H v H' => ∃ T1 T2 x y, v = .ref T2 ∧ H T1 = none ∧ upd H T1 (.tup [x, y]) T2 = none ∧ H' = upd (upd H T1 (.tup [x, y])) T2 (.tup [.int (i : Nat), .ref T1]) ∧ (∀ xs, SqL K H a xs → xs[i]? = some x) ∧ ∀ ys, SqL K H b ys → ys[i]? = some y,
    fun i H => ∃ xs ys : List V, SqL K H a xs ∧ SqL K H b ys ∧ i = min xs.length ys.length⟩
theorem mem6 {e z TI TO i1 i2 c : Addr} (h : c ∈ [e, z, TI, TO, i1, i2]) : c = e ∨ c = z ∨ c = TI ∨ c = TO ∨ c = i1 ∨ c = i2 := by simpa using h
theorem turn_ez {P : Program} {w : World} {K : Fr} {elts : List Expr} {kk : Nat} {tpos : Pos} {a b e z TI TO i1 i2 : Addr} (D : ZipApart z TI TO i1 i2 a b) (n : e ≠ z ∧ e ≠ TI ∧ e ≠ TO ∧ e ≠ i1 ∧ e ≠ i2) :
    Turn P w K (.Tuple elts kk tpos) (Itez K a b) [e, z, TI, TO, i1, i2] e (fun i h => (∃ old, IsEnum h e z ((i : Nat) : Int) old) ∧ ZM z TI TO i1 i2 a b i h) where
  mem := List.mem_cons_self
  obj := fun i h st c hc => by
    obtain ⟨⟨old, he⟩, m⟩ := st
    obtain ⟨h1, ⟨x, y, h2⟩, ⟨o1, q1, _, d1⟩, ⟨o2, q2, _, d2⟩, f0, f, hz, _⟩ := m
    rcases mem6 hc with rfl | rfl | rfl | rfl | rfl | rfl
    · exact ⟨_, he, fun v q => nomatch q⟩
    · exact ⟨_, hz, fun v q => nomatch q⟩
    · exact ⟨_, h1, fun v q => nomatch q⟩
    · exact ⟨_, h2, fun v q => nomatch q⟩
    · exact ⟨o1, q1, fun v q => by rw [d1] at q; cases q⟩
    · exact ⟨o2, q2, fun v q => by rw [d2] at q; cases q⟩
  keep := fun i h h' st k => by
    obtain ⟨⟨old, he⟩, h1, ⟨x, y, h2⟩, q1, q2, f0, f, hz, hf⟩ := st
    exact ⟨⟨old, k _ (by simp) _ he⟩, k _ (by simp) _ h1, ⟨x, y, k _ (by simp) _ h2⟩, q1.at fun o q => k _ (by simp) o q, q2.at fun o q => k _ (by simp) o q, f0, f, k _ (by simp) _ hz, hf⟩
  item := by
    intro X hP hw hK hc i pins s σ H E I hf st hg
    subst hP hw hK
    obtain ⟨⟨old, he⟩, m⟩ := st
    obtain ⟨xs, ys, x, y, hqx, hqy, hx, hy⟩ := hg
    obtain ⟨its, rv, p1, _⟩ := I.list hqx
    obtain ⟨its2, rv2, p2, _⟩ := I.list hqy
    obtain ⟨u1, hu1, r1⟩ := rv.get hx
    obtain ⟨u2, hu2, r2⟩ := rv2.get hy
    have lt : ∀ c ∈ [e, z, TI, TO, i1, i2], c < s.heap.objs.size := fun c hcm => by
      obtain ⟨h1, ⟨x, y, h2⟩, ⟨o1, q1, _⟩, ⟨o2, q2, _⟩, f0, f, hz, _⟩ := m
      rcases mem6 hcm with rfl | rfl | rfl | rfl | rfl | rfl
      · exact Heap.lt_size he
      · exact Heap.lt_size hz
      · exact Heap.lt_size h1
      · exact Heap.lt_size h2
      · exact Heap.lt_size q1
      · exact Heap.lt_size q2
    refine ez_next D he n m p1.isList p2.isList (x := u1) (y := u2) (by simpa using hu1) (by simpa using hu2) fun g1 h' k1 s1 t1 m' ho t2 k2 => ⟨_, rfl, wpAny_letOwnedTupleGo_enum (s := { s with heap := h', toks := s.toks + 1 }) ho fun h'' he' sb => ?_⟩
    have hel := lt e List.mem_cons_self
    have up2 : ∀ c o, c ≠ e → g1.get? c = some o → h''.get? c = some o := fun c o c1 q => (sb.2 c c1).trans (k2 c o c1 q)
    have new1 : ObjOk X.prog X.w (upd H s.heap.objs.size (.tup [x, y])) g1 s.heap.objs.size (.tup [x, y]) := ⟨by show 2 ≤ sizeLine; decide, [u1, u2], .cons r1 (.cons r2 .nil), ⟨_, t1, rfl, _, rfl⟩⟩
    have I1 : Inv X pins σ (upd H s.heap.objs.size (.tup [x, y])) { s with heap := g1 } := I.turnedNew (t' := s.toks) (ch := [e, z, TI, TO, i1, i2]) (fun c o hb q => k1 c o (fun q' => hb (by simp [q'])) (fun q' => hb (by simp [q'])) (fun q' => hb (by simp [q'])) (fun q' => hb (by simp [q'])) q) hf (Nat.le_refl _) new1
    have hn1 : H s.heap.objs.size = none := I.hok.fresh (Nat.le_refl _)
    have hn2 : upd H s.heap.objs.size (.tup [x, y]) (s.heap.objs.size + 1) = none := I1.hok.fresh (by show g1.objs.size ≤ _; rw [s1]; exact Nat.le_refl _)
    have hf1 : ∀ c ∈ [e, z, TI, TO, i1, i2], FpOk X pins (upd H s.heap.objs.size (.tup [x, y])) c := fun c hcm => by
      obtain ⟨f1, f2⟩ := hf c hcm
      exact ⟨by rw [upd_ne (Nat.ne_of_lt (lt c hcm))]; exact f1, f2⟩
    have new2 : ObjOk X.prog X.w (upd (upd H s.heap.objs.size (.tup [x, y])) (s.heap.objs.size + 1) (.tup [.int (i : Nat), .ref s.heap.objs.size])) h'' (s.heap.objs.size + 1) (.tup [.int (i : Nat), .ref s.heap.objs.size]) :=
      ⟨by show 2 ≤ sizeLine; decide, [.int i s.toks, .ref s.heap.objs.size], .cons ⟨_, rfl⟩ (.cons rfl .nil), ⟨_, (sb.2 _ (Nat.ne_of_gt (Nat.lt_succ_of_lt hel))).trans t2, rfl, _, rfl⟩⟩
    have I2 := I1.turnedNew (t' := s.toks + 1) (ch := [e, z, TI, TO, i1, i2]) (h' := h'') (T := s.heap.objs.size + 1) (fun c o hb q => up2 c o (fun q' => hb (by simp [q'])) q) hf1 (by show g1.objs.size ≤ _; rw [s1]; exact Nat.le_refl _) new2
    refine ⟨.ref (s.heap.objs.size + 1), _, I2, rfl, ⟨_, _, x, y, rfl, hn1, hn2, rfl, fun l hl => by rw [I.list_inj hl hqx]; exact hx, fun l hl => by rw [I.list_inj hl hqy]; exact hy⟩, ⟨⟨.ref s.heap.objs.size, ?_⟩, ?_⟩, fun c hcm => ?_⟩
    · have e1 : ((i + 1 : Nat) : Int) = (i : Int) + 1 := by omega
      rw [e1]; exact he'
    · obtain ⟨h1, ⟨x, y, h2⟩, q1, q2, f0, f, hz, hff⟩ := m'
      obtain ⟨nz, nTI, nTO, n1, n2⟩ := n
      exact ⟨(sb.2 _ nTI.symm).trans h1, ⟨x, y, (sb.2 _ nTO.symm).trans h2⟩, q1.at fun o q => (sb.2 _ n1.symm).trans q, q2.at fun o q => (sb.2 _ n2.symm).trans q, f0, f, (sb.2 _ nz.symm).trans hz, hff⟩
    · have hlt := lt c hcm
      rw [upd_ne (Nat.ne_of_lt (Nat.lt_succ_of_lt hlt)), upd_ne (Nat.ne_of_lt hlt)]
      exact (hf c hcm).1
  done := by
    intro X hP hw hK hc i pins s σ H E I hf st hg
    subst hP hw hK
    obtain ⟨⟨old, he⟩, m⟩ := st
    obtain ⟨xs, ys, hqx, hqy, hend⟩ := hg
    obtain ⟨its, rv, p1, _⟩ := I.list hqx
    obtain ⟨its2, rv2, p2, _⟩ := I.list hqy
    have l1 := rv.length
    have l2 := rv2.length
    have hn : its.toArray[i]? = none ∨ its2.toArray[i]? = none := by
      rcases Nat.le_total xs.length ys.length with q | q
      · exact .inl (by simp; omega)
      · exact .inr (by simp; omega)
    exact ez_end (I.ok.hd hc) D he m p1.isList p2.isList hn fun h' hk => ⟨rfl, I.turnedL (t' := s.toks) (ch := [e, z, TI, TO, i1, i2]) (fun c o hb q => hk c o (fun q' => hb (by simp [q'])) (fun q' => hb (by simp [q'])) (fun q' => hb (by simp [q'])) (fun q' => hb (by simp [q'])) q) hf⟩
  self := fun A i s Q E st h => by
    obtain ⟨⟨old, he⟩, _⟩ := st
    exact wpAny_pyIter_enum he h
def iEz (K : Fr) (ta : TA) : TI := fun σ H R => ta σ H fun vs H1 => ∃ a b xs ys, vs = [.ref a, .ref b] ∧ SqL K H1 a xs ∧ SqL K H1 b ys ∧ R (Itez K a b) H1
theorem pi_ez {X : Cx} {e e2 : Expr} {ta : TA} {p q pos pos2 tpos : Pos} {elts : List Expr} {kk : Nat} (hg : Gl X "zip") (hm : X.mg "zip" = none) (hge : Gl X "enumerate") (hme : X.mg "enumerate" = none) (ha : PA X [e, e2] ta)
    (hs : starEach [e, e2] X.env = (false, eval e X.env) :: starEach [e2] X.env := by rfl) (hpl : (backTo pos2 (starEach [e2] X.env)).any (·.1) = false := by rfl)
    (hs2 : starEach [.Call (.Name "zip" q) [e, e2] [] pos2] X.env = (false, eval (.Call (.Name "zip" q) [e, e2] [] pos2) X.env) :: starEach [] X.env := by rfl) :
    PI X (.Tuple elts kk tpos) (.Call (.Name "enumerate" p) [.Call (.Name "zip" q) [e, e2] [] pos2] [] pos) (iEz X.K ta) := by
  refine ⟨fun pins s σ H R I h => Call_ (ld_blt I hge hme boot_enumerate (PyProof.Rows.callWith_type1 ?_ hs2 rfl))⟩
  rw [hs2]
  refine Calls.spliced_cons (Call_ (ld_blt I hg hm PyProof.Rows.boot_zip (PyProof.Rows.callWith_type1 (thn (ha.run pos2 pins s σ H _ I h) fun us s1 ⟨vs, H1, I1, r1, a, b, xs, ys, ex, hqa, hqb, qq⟩ => ?_) hs hpl)))
  subst ex
  cases r1 with | cons ra r1 =>
  cases r1 with | cons rb r1 =>
  cases r1; cases ra; cases rb
  obtain ⟨its, rv, p1, z1⟩ := I1.list hqa
  obtain ⟨its2, rv2, p2, z2⟩ := I1.list hqb
  refine call_zip_2 p1.isList p2.isList fun h' hz hTI hTO e1 e2 hsz hk => Calls.spliced_nil ?_
  have D := PySem.W.ktu_apart s1.heap.objs.size a b p1.lt p2.lt
  refine callType_new F.called_enumerate (by decide) (F.typeCall_enumerate_1 _) (F.newCall_enumerate_1 _) (fun obj => F.args_object_init_2 obj _) F.entry_enumerate_new (meets_ez _ _ _) ⟨hz, ?_⟩
  have he : IsEnum (h'.push { cls := .type "enumerate", data := .fields #[.none, .bool false, .ref (s1.heap.objs.size + 4), rawInt 0, .none, .none] }) h'.objs.size (s1.heap.objs.size + 4) 0 .none := Heap.get?_push_size _ rfl
  refine ⟨⟨_, he, rfl⟩, wpAny_pyIter_enum he ?_⟩
  have up : ∀ c o, h'.get? c = some o → (h'.push { cls := .type "enumerate", data := .fields #[.none, .bool false, .ref (s1.heap.objs.size + 4), rawInt 0, .none, .none] }).get? c = some o := fun c o q => Heap.get?_push_of_some _ q
  have I2 : Inv X pins σ H1 { s1 with heap := h'.push { cls := .type "enumerate", data := .fields #[.none, .bool false, .ref (s1.heap.objs.size + 4), rawInt 0, .none, .none] } } := I1.kept (t' := s1.toks) fun c o q => up c o (hk c o q)
  have nn : ∀ {k}, k < 5 → h'.objs.size ≠ s1.heap.objs.size + k := fun {k} hk5 q => by rw [hsz] at q; omega
  refine ⟨h'.objs.size, [h'.objs.size, s1.heap.objs.size + 4, s1.heap.objs.size + 2, s1.heap.objs.size + 3, s1.heap.objs.size, s1.heap.objs.size + 1], _, _, H1, rfl, I2, turn_ez D ⟨nn (by decide), nn (by decide), nn (by decide), nn (k := 0) (by decide), nn (by decide)⟩, ⟨⟨.none, he⟩, up _ _ hTI, ⟨_, _, up _ _ hTO⟩, e1.at fun o q => up _ o q, e2.at fun o q => up _ o q, .none, false, up _ _ hz, .inl rfl⟩, fun c hcm => ?_, qq⟩
  have hle : s1.heap.objs.size ≤ c := by
    rcases mem6 hcm with rfl | rfl | rfl | rfl | rfl | rfl
    · rw [hsz]; exact Nat.le_add_right _ _
    · exact Nat.le_add_right _ _
    · exact Nat.le_add_right _ _
    · exact Nat.le_add_right _ _
    · exact Nat.le_refl _
    · exact Nat.le_add_right _ _
  exact I1.fpOk hle (I1.hok.fresh hle)
section
variable {g : G} {E : EX}
theorem it_ez {K : Fr} {F : Hp} {a b : Addr} {vs ws : List V} {ds es : List PyData} (h1 : SqL K F a vs) (h2 : SqL K F b ws) (r1 : RepL K F vs ds) (r2 : RepL K F ws es) : ItOk K F (Itez K a b) (enumD 0 (zipD ds es)) := fun i F1 H1 e e1 => by
  have m1 := (e.trans e1).sqL h1
  have m2 := (e.trans e1).sqL h2
  rw [enumD_len, zipD_len]
  refine ⟨fun hi => ?_, fun hi => ⟨vs, ws, m1, m2, by rw [r1.length, r2.length]; omega⟩, fun x H2 hy d hd => .inr (.inr ?_)⟩
  · obtain ⟨v, d, q1, _⟩ := r1.getV_lt (i := i) (by omega)
    obtain ⟨v', d', q2, _⟩ := r2.getV_lt (i := i) (by omega)
    exact ⟨vs, ws, v, v', m1, m2, q1, q2⟩
  · obtain ⟨T1, T2, x, y, rfl, hT1, hT2, rfl, hx, hy⟩ := hy
    rw [enumD_get] at hd
    obtain ⟨d', hd', rfl⟩ := Option.map_eq_some_iff.mp hd
    obtain ⟨d1, d2, e3, e4, rfl⟩ := zipD_get ds es i d' hd'
    obtain ⟨v1, q1, p1⟩ := r1.get e3
    obtain ⟨v2, q2, p2⟩ := r2.get e4
    have z1 := hx vs m1
    rw [q1] at z1; cases z1
    have z2 := hy ws m2
    rw [q2] at z2; cases z2
    have f1 : F1 T1 = none := e1.free hT1
    have ne : T2 ≠ T1 := fun q => by rw [q, upd_same] at hT2; cases hT2
    have f2 : upd F1 T1 (.tup [x, y]) T2 = none := by
      rw [upd_ne ne]
      rw [upd_ne ne] at hT2
      exact e1.free hT2
    have mm : Ex F (upd (upd F1 T1 (.tup [x, y])) T2 (.tup [.int (i : Nat), .ref T1])) := (e.trans (Ex.new f1)).trans (Ex.new f2)
    refine ⟨T1, _, T2, _, hT1, hT2, rfl, .tup (sqT_of upd_same) (.cons ?_ (.cons (.tup (sqT_of (by rw [upd_ne (Ne.symm ne), upd_same])) (.cons (p1.mono mm) (.cons (p2.mono mm) .nil))) .nil))⟩
    rw [Nat.zero_add]; exact .int _
def aEz (a : AD) : AI := fun ρ => (a ρ).bind fun ds ρ1 => match ds with
  | [.list l1, .list l2] => .ok (enumD 0 (zipD l1 l2)) ρ1
  | _ => .bad
theorem si_ez {ta : TA} {a : AD} (ha : SD g E ta a) : SI g E (iEz g.K ta) (aEz a) := fun s R ok h =>
  ha s _ ok ((Aft.bind h).mono fun ds F1 H1 W1 ρ1 ok1 go1 h1 vs rs => by
    dsimp only at h1
    split at h1
    · cases rs with | cons r1 r2 =>
      cases r2 with | cons r2 r3 =>
      cases r3
      cases r1 with | lst hA rA =>
      cases r2 with | lst hB rB =>
      exact ⟨_, _, _, _, rfl, sqL_of (ok1.ex _ _ hA), sqL_of (ok1.ex _ _ hB), Aft.here (s := ⟨F1, H1, W1, s.σ, ρ1⟩) ok1 h1 _ (it_ez (sqL_of hA) (sqL_of hB) rA rB)⟩
    · exact h1.elim)
end
end DL

/-! rules for list(zip), enumerate(zip), x = list(e) that is built on, in -/
namespace DL
open PySem PySem.Spec PyProof.Rows L2
section
variable {X : Cx} {g : G} {E : EX} {K : Fr}
theorem pd_lz {a b : Expr} {t : TA} {q : AD} {p p2 pos pos2 : Pos} (hm : X.mg "zip" = none) (hml : X.mg "list" = none) (h : PDD X g E [a, b] t q) (hc : X.calm = true := by rfl) (hg : Gl X "zip" := by rfl) (hgl : Gl X "list" := by rfl)
    (hs : starEach [a, b] X.env = (false, eval a X.env) :: starEach [b] X.env := by rfl) (hpl : (backTo pos2 (starEach [b] X.env)).any (·.1) = false := by rfl)
    (hs2 : starEach [.Call (.Name "zip" p2) [a, b] [] pos2] X.env = (false, eval (.Call (.Name "zip" p2) [a, b] [] pos2) X.env) :: starEach [] X.env := by rfl) (hK : X.K = K := by rfl) :
    PD X g E (.Call (.Name "list" p) [.Call (.Name "zip" p2) [a, b] [] pos2] [] pos) (tLZ K t) (aLZ q) := by
  subst hK
  exact ⟨pe_lz hc hg hm hgl hml h.pa hs hpl hs2, se_lz (g := g.at X.K) h.sd⟩
theorem pid_ez {a b : Expr} {t : TA} {q : AD} {p p2 pos pos2 tpos : Pos} {elts : List Expr} {kk : Nat} (hm : X.mg "zip" = none) (hme : X.mg "enumerate" = none) (h : PDD X g E [a, b] t q) (hg : Gl X "zip" := by rfl) (hge : Gl X "enumerate" := by rfl)
    (hs : starEach [a, b] X.env = (false, eval a X.env) :: starEach [b] X.env := by rfl) (hpl : (backTo pos2 (starEach [b] X.env)).any (·.1) = false := by rfl)
    (hs2 : starEach [.Call (.Name "zip" p2) [a, b] [] pos2] X.env = (false, eval (.Call (.Name "zip" p2) [a, b] [] pos2) X.env) :: starEach [] X.env := by rfl) (hK : X.K = K := by rfl) :
    PID X g E (.Tuple elts kk tpos) (.Call (.Name "enumerate" p) [.Call (.Name "zip" p2) [a, b] [] pos2] [] pos) (iEz K t) (aEz q) := by
  subst hK
  exact ⟨pi_ez hg hm hge hme h.pa hs hpl hs2, si_ez (g := g.at X.K) h.sd⟩
end
/-! in, of ints -/
def oIn : PyData → PyData → Option PyData
  | .int x, .list a => (dints a).map fun ns => .bool (decide (x ∈ ns))
  | .int x, .tuple a => (dints a).map fun ns => .bool (decide (x ∈ ns))
  | _, _ => none
def oNIn : PyData → PyData → Option PyData
  | .int x, .list a => (dints a).map fun ns => .bool (!decide (x ∈ ns))
  | .int x, .tuple a => (dints a).map fun ns => .bool (!decide (x ∈ ns))
  | _, _ => none
theorem inV_ints (x : Int) : ∀ ns : List Int, inV (.int x) (ns.map V.int) = decide (x ∈ ns)
  | [] => rfl
  | n :: ns => by
    show ((n == x) || inV (.int x) (ns.map V.int)) = _
    rw [inV_ints x ns, Bool.eq_iff_iff, Bool.or_eq_true, beq_iff_eq, decide_eq_true_eq, decide_eq_true_eq, List.mem_cons]
    exact ⟨fun h => h.imp Eq.symm id, fun h => h.imp Eq.symm id⟩
theorem flat_ints (ns : List Int) : (ns.map V.int).all flatV = true := by rw [List.all_map]; exact List.all_eq_true.mpr fun _ _ => rfl
section
variable {g : G}
theorem rs_inB {neg : Bool} {f : PyData → PyData → Option PyData} (hf1 : ∀ d1 d2 d, f d1 d2 = some d → ∃ (x : Int) (ns : List Int), d1 = .int x ∧ (d2 = .list (ns.map .int) ∨ d2 = .tuple (ns.map .int)) ∧ d = .bool (if neg then !decide (x ∈ ns) else decide (x ∈ ns))) : RS g (rIn g.K neg) f := RS.sc fun F H x y d1 d2 d Q e r1 r2 hf k => by
  obtain ⟨z, ns, rfl, h, rfl⟩ := hf1 d1 d2 d hf
  cases r1
  rcases h with rfl | rfl
  · cases r2 with | lst ha hl =>
    rw [RepL.ints hl] at ha
    refine ⟨_, ns.map V.int, rfl, .inl (sqL_of (e _ _ ha)), rfl, flat_ints ns, ?_⟩
    rw [inV_ints]; exact k _ (.bl _)
  · cases r2 with | tup ha hl =>
    rw [RepL.ints hl] at ha
    refine ⟨_, ns.map V.int, rfl, .inr (e.sqT ha), rfl, flat_ints ns, ?_⟩
    rw [inV_ints]; exact k _ (.bl _)
theorem oIn_inv {d1 d2 d : PyData} (h : oIn d1 d2 = some d) : ∃ (x : Int) (ns : List Int), d1 = .int x ∧ (d2 = .list (ns.map .int) ∨ d2 = .tuple (ns.map .int)) ∧ d = .bool (if false then !decide (x ∈ ns) else decide (x ∈ ns)) := by
  unfold oIn at h
  split at h
  · obtain ⟨ns, h1, rfl⟩ := Option.map_eq_some_iff.mp h
    exact ⟨_, ns, rfl, .inl (by rw [dints_eq h1]), rfl⟩
  · obtain ⟨ns, h1, rfl⟩ := Option.map_eq_some_iff.mp h
    exact ⟨_, ns, rfl, .inr (by rw [dints_eq h1]), rfl⟩
  · cases h
theorem oNIn_inv {d1 d2 d : PyData} (h : oNIn d1 d2 = some d) : ∃ (x : Int) (ns : List Int), d1 = .int x ∧ (d2 = .list (ns.map .int) ∨ d2 = .tuple (ns.map .int)) ∧ d = .bool (if true then !decide (x ∈ ns) else decide (x ∈ ns)) := by
  unfold oNIn at h
  split at h
  · obtain ⟨ns, h1, rfl⟩ := Option.map_eq_some_iff.mp h
    exact ⟨_, ns, rfl, .inl (by rw [dints_eq h1]), rfl⟩
  · obtain ⟨ns, h1, rfl⟩ := Option.map_eq_some_iff.mp h
    exact ⟨_, ns, rfl, .inr (by rw [dints_eq h1]), rfl⟩
  · cases h
end
section
variable {X : Cx} {g : G} {E : EX} {K : Fr} {a b : Expr} {ta tb : TE} {α β : AE} {pos : Pos}
theorem pd_in (ha : PD X g E a ta α) (hb : PD X g E b tb β) (hm : behindInMarks .In b = false := by rfl) (hK : X.K = K := by rfl) : PD X g E (.Compare a [.In] [b] pos) (tOp (rIn K false) ta tb) (aBin oIn α β) := by
  subst hK
  exact ⟨pe_cmpR op_in_seq ha.pe hb.pe hm, se_bin (g := g.at X.K) (rs_inB (neg := false) fun _ _ _ h => oIn_inv h) ha.se hb.se⟩
theorem pd_nin (ha : PD X g E a ta α) (hb : PD X g E b tb β) (hm : behindInMarks .NotIn b = false := by rfl) (hK : X.K = K := by rfl) : PD X g E (.Compare a [.NotIn] [b] pos) (tOp (rIn K true) ta tb) (aBin oNIn α β) := by
  subst hK
  exact ⟨pe_cmpR op_notIn_seq ha.pe hb.pe hm, se_bin (g := g.at X.K) (rs_inB (neg := true) fun _ _ _ h => oNIn_inv h) ha.se hb.se⟩
theorem ptd_in (ha : PD X g E a ta α) (hb : PD X g E b tb β) (hm : behindInMarks .In b = false := by rfl) (hK : X.K = K := by rfl) : PTD X g E (.Compare a [.In] [b] pos) (tTest (tOp (rIn K false) ta tb)) (aTest (aBin oIn α β)) := by
  subst hK
  exact ⟨pt_cmpR op_in_seq ha.pe hb.pe hm, st_test (se_bin (g := g.at X.K) (rs_inB (neg := false) fun _ _ _ h => oIn_inv h) ha.se hb.se)⟩
theorem ptd_nin (ha : PD X g E a ta α) (hb : PD X g E b tb β) (hm : behindInMarks .NotIn b = false := by rfl) (hK : X.K = K := by rfl) : PTD X g E (.Compare a [.NotIn] [b] pos) (tTest (tOp (rIn K true) ta tb)) (aTest (aBin oNIn α β)) := by
  subst hK
  exact ⟨pt_cmpR op_notIn_seq ha.pe hb.pe hm, st_test (se_bin (g := g.at X.K) (rs_inB (neg := true) fun _ _ _ h => oNIn_inv h) ha.se hb.se)⟩
end
/-! x = list(e), to be built on -/
def ownB' (i : Nat) (d : PyData) (ρ : List Sl) : SRes := match d with
  | .list ds => nxO (putS ρ i (.own (.list ds)))
  | _ => .bad
def asOwnC (i : Nat) (a : AE) : AS := fun ρ => (a ρ).thn (ownB' i)
section
variable {X : Cx} {g : G} {E : EX} {K : Fr}
theorem ss_ownC {i : Nat} {te : TE} {a : AE} (ha : SE g E te a) : SS g E (tAsg (tCB (fun xs H Q => ∃ p ys, xs = [.ref p] ∧ (SqL g.K H p ys ∨ SqT g.K H p ys) ∧ ∀ l, H l = none → Q (.ref l) (upd H l (.lst ys))) (tCons te tNil)) (gName i)) (asOwnC i a) := fun s D ok h =>
  ha s _ ok ((AftS.thn h).mono fun d F H W ρ ok1 go1 k v rv => by
    unfold ownB' at k
    split at k
    · rename_i ds
      cases rv with | lst hA rA =>
      refine ⟨_, _, rfl, .inl (sqL_of (ok1.ex _ _ hA)), fun p hp => ?_⟩
      cases e : putS ρ i (.own (.list ds)) with
      | none => rw [e] at k; exact k.elim
      | some ρ2 =>
        rw [e] at k
        obtain ⟨h1, h2, rfl⟩ := putS_some e
        obtain ⟨ok2, go2⟩ := S.Ok.newOwn (s := ⟨F, H, W, s.σ, ρ⟩) (p := p) (o := .lst _) (x' := .own (.list ds)) ok1 hp h1 h2 ⟨p, _, rfl, rfl, upd_same, rA⟩
        exact k _ rfl ok2 go2
    · exact k.elim)
theorem psd_ownC {i : Nat} {x : Str} {px : Pos} {e : Expr} {p cp pos : Pos} {te : TE} {a : AE} (h : PD X g E e te a) (hm : X.mg "list" = none) (hN : X.N.Nodup) (hi : X.N[i]? = some x := by rfl) (hx : Loc X.env.scope x := by first | exact .inl rfl | exact .inr rfl) (hf : X.fn x = true ∨ X.env.scope.names.lookup x = some .local := by first | exact .inl rfl | exact .inr rfl | assumption) (hg : Gl X "list" := by rfl)
    (he : starEach [e] X.env = (false, eval e X.env) :: starEach [] X.env := by rfl) (hpl : (backTo cp (starEach [] X.env)).any (·.1) = false := by rfl)
    (hs : swapsWithSole [.Name x px] (.Call (.Name "list" p) [e] [] cp) pos.line X.env = pure false := by rfl) (hw : swappedStores [.Name x px] (.Call (.Name "list" p) [e] [] cp) X.env = pure none := by rfl) (hK : X.K = K := by rfl) :
    PSD X g E (.Assign [.Name x px] (.Call (.Name "list" p) [e] [] cp) pos) (tAsg (tCB (fun xs H Q => ∃ p ys, xs = [.ref p] ∧ (SqL K H p ys ∨ SqT K H p ys) ∧ ∀ l, H l = none → Q (.ref l) (upd H l (.lst ys))) (tCons te tNil)) (gName i)) (asOwnC i a) := by
  subst hK
  exact ⟨ps_asg (pe_callTy call_list_of hg hm bb_list (pa_cons h.pe pa_nil he) (by decide) (by decide) he hpl) (pg_name hN hi hx hf) hs hw, ss_ownC (g := g.at X.K) h.se⟩
end
/-! x, y = [], e -/
/-- an object that nothing knows becomes a name's own -/
theorem S.Ok.adopt {g : G} {s : S} {i : Nat} {x' : Sl} {p : Addr} {o : HO} (ok : s.Ok g) (hp : s.H p = some o) (fp : s.F p = none) (wp : ¬ s.W p) (hi : i < s.ρ.length) (hn : noPin (DL.sl s.ρ i) = true)
    (h : SlOk g s.F s.H (fun a => a = p) (some (.ref p)) x') : (S.mk s.F s.H (fun a => s.W a ∨ a = p) (s.σ.set i (some (.ref p))) (s.ρ.set i x')).Ok g := by
  obtain ⟨O, h1, h2, h3⟩ := ok.sl
  have nW : ∀ a, s.W a → a ≠ p := fun a ha e => wp (e ▸ ha)
  have hi' : i < s.σ.length := by rw [ok.len]; exact hi
  refine ⟨ok.ex, fun a ha => ?_, by show (s.σ.set i _).length = (s.ρ.set i x').length; rw [List.length_set, List.length_set]; exact ok.len, fun j a => if j = i then a = p else O j a, fun j a ha => ?_, fun j k a ha hb => ?_, fun j x hj => ?_⟩
  · rcases (show s.W a ∨ a = p from ha) with ha | rfl
    · exact ok.fw a ha
    · exact ⟨fp, by rw [hp]; exact fun q => nomatch q⟩
  · dsimp only at ha
    split at ha
    · exact .inr ha
    · exact .inl (h1 j a ha)
  · dsimp only at ha hb
    split at ha
    · split at hb
      · rename_i e1 e2; rw [e1, e2]
      · exact absurd ha (nW a (h1 k a hb))
    · split at hb
      · exact absurd hb (nW a (h1 j a ha))
      · exact h2 j k a ha hb
  · have hj : (s.ρ.set i x')[j]? = some x := hj
    show SlOk g s.F s.H (fun a => if j = i then a = p else O j a) ((s.σ.set i (some (.ref p)))[j]?.join) x
    by_cases e : i = j
    · subst e
      rw [List.getElem?_set_self hi] at hj
      cases hj
      rw [List.getElem?_set_self hi']
      exact SlOk.keep (.refl _) (fun _ _ _ => rfl) (fun a ha => by rw [if_pos rfl]; exact ha) h
    · rw [List.getElem?_set_ne e] at hj ⊢
      exact (h3 j x hj).keep (.refl _) (fun a _ _ => rfl) fun a ha => by rw [if_neg (Ne.symm e)]; exact ha
def parLB (i j : Nat) (d : PyData) (ρ : List Sl) : SRes := nxO ((putS ρ i (.own (.list []))).bind fun ρ2 => putS ρ2 j (.dat d))
def asParL (i j : Nat) (b : AE) : AS := fun ρ => (b ρ).thn (parLB i j)
theorem ss_parL {g : G} {E : EX} {i j : Nat} {te : TE} {b : AE} (hb : SE g E te b) : SS g E (tPar i j (tCons (tLst tNil) (tCons te tNil))) (asParL i j b) := fun s D ok h => by
  refine ⟨Nat.zero_le _, fun p hp => ?_⟩
  obtain ⟨ok1, go1⟩ := S.Ok.junk (o := .lst []) ok hp
  have nW : ¬ s.W p := fun z => (ok.fw p z).2 hp
  refine hb ⟨s.F, upd s.H p (.lst []), s.W, s.σ, s.ρ⟩ _ ok1 ?_
  have h : AftS g E s ((b s.ρ).thn (parLB i j)) (KE.of g D) := h
  show Aft g E _ (b s.ρ) _
  cases eb : b s.ρ with
  | bad => rw [eb] at h; exact h.elim
  | exc x ρ => rw [eb] at h; exact fun F H W ok2 go2 => h ⟨F, H, W, s.σ, ρ⟩ rfl ok2 (go1.trans go2)
  | ok d ρ =>
    rw [eb] at h
    have k : AftS g E s (parLB i j d ρ) (KE.of g D) := h
    intro F H W ok2 go2 v rv
    have fp : F p = none := go2.fr p (by show upd s.H p (.lst []) p ≠ none; rw [upd_same]; exact fun q => nomatch q) (ok.ex.free hp) nW
    have hp2 : H p = some (.lst []) := go2.keep p _ upd_same nW
    have wp : ¬ W p := fun z => by
      rcases go2.own p z with q | q
      · exact nW q
      · have q : upd s.H p (.lst []) p = none := q
        rw [upd_same] at q; cases q
    unfold parLB at k
    cases e1 : putS ρ i (.own (.list [])) with
    | none => rw [e1] at k; exact k.elim
    | some ρ2 =>
      rw [e1, show (some ρ2).bind (fun ρ2 => putS ρ2 j (.dat d)) = putS ρ2 j (.dat d) from rfl] at k
      cases e2 : putS ρ2 j (.dat d) with
      | none => rw [e2] at k; exact k.elim
      | some ρ3 =>
        rw [e2] at k
        obtain ⟨q1, q2, rfl⟩ := putS_some e1
        obtain ⟨q3, q4, rfl⟩ := putS_some e2
        have ok3 := S.Ok.adopt (s := ⟨F, H, W, s.σ, ρ⟩) (x' := .own (.list [])) ok2 hp2 fp wp q1 q2 ⟨p, [], rfl, rfl, hp2, .nil⟩
        have go3 : Go s ⟨F, H, fun a => W a ∨ a = p, s.σ.set i (some (.ref p)), ρ.set i (.own (.list []))⟩ := by
          have go12 := go1.trans go2
          refine ⟨go12.f, go12.keep, go12.fr, fun a ha => ?_, fun k m hk => ?_⟩
          · rcases (show W a ∨ a = p from ha) with ha | rfl
            · exact go12.own a ha
            · exact .inr hp
          · obtain ⟨z1, m', z2⟩ := go12.pk k m hk
            have ne : i ≠ k := fun e => by
              subst e
              rw [sl_of z2] at q2; cases q2
            exact ⟨by show (s.σ.set i _)[k]? = _; rw [List.getElem?_set_ne ne], m', by show (ρ.set i _)[k]? = _; rw [List.getElem?_set_ne ne]; exact z2⟩
        obtain ⟨ok4, go4⟩ := S.Ok.put ok3 rv q3 q4
        exact ⟨_, _, rfl, k _ rfl ok4 (go3.trans go4)⟩
theorem psd_parL {X : Cx} {g : G} {E : EX} {i j : Nat} {x y : Str} {f : Expr} {te : TE} {b : AE} {px py pt lp pos : Pos} {kt k2 pt2} (ha : PD X g E f te b) (hN : X.N.Nodup) (hw : swappedStores [.Tuple [.Name x px, .Name y py] kt pt] (.Tuple [.List [] lp, f] k2 pt2) X.env = pure (some [x, y]) := by rfl) (hi : X.N[i]? = some x := by rfl) (hj : X.N[j]? = some y := by rfl) (hij : i ≠ j := by decide)
    (hx : X.env.scope.names.lookup x = some .local := by rfl) (hy : X.env.scope.names.lookup y = some .local := by rfl) (hc : X.calm = true := by rfl) (hs : swapsWithSole [.Tuple [.Name x px, .Name y py] kt pt] (.Tuple [.List [] lp, f] k2 pt2) pos.line X.env = pure false := by rfl)
    (hs1 : starEach [.List [] lp, f] X.env = (false, eval (.List [] lp) X.env) :: starEach [f] X.env := by rfl) (hs2 : starEach [f] X.env = (false, eval f X.env) :: starEach [] X.env := by rfl) :
    PSD X g E (.Assign [.Tuple [.Name x px, .Name y py] kt pt] (.Tuple [.List [] lp, f] k2 pt2) pos) (tPar i j (tCons (tLst tNil) (tCons te tNil))) (asParL i j b) := ⟨ps_par hc hN hi hj hij hx hy (pa_cons (pe_lst pa_nil) (pa_cons ha.pe pa_nil hs2) hs1) hw hs, ss_parL ha.se⟩
/-! evaluation -/
def kLZ (ds : List PyData) (ρ : List Sl) : Res PyData := match ds with | [.list l1, .list l2] => .ok (.list (zipD l1 l2)) ρ | _ => .bad
def kEz (ds : List PyData) (ρ : List Sl) : Res (List PyData) := match ds with | [.list l1, .list l2] => .ok (enumD 0 (zipD l1 l2)) ρ | _ => .bad
section
variable {ρ : List Sl} {q : AD} {a : AE}
theorem e_lz : aLZ q ρ = (q ρ).bind kLZ := rfl
theorem e_ez : aEz q ρ = (q ρ).bind kEz := rfl
theorem e_ownC {i : Nat} : asOwnC i a ρ = (a ρ).thn (ownB' i) := rfl
theorem e_parL {i j : Nat} : asParL i j a ρ = (a ρ).thn (parLB i j) := rfl
theorem e_try {n i : Nat} {f : Fn} {b : AS} : asTry n i f b ρ = tryB n i f (b ρ) := rfl
theorem try_rt {n i : Nat} {f : Fn} {d : PyData} : tryB n i f (.rt d ρ) = .rt d ρ := rfl
theorem try_nx {n i : Nat} {f : Fn} : tryB n i f (.nx ρ) = .nx ρ := rfl
theorem try_exc {n i e : Nat} {f : Fn} {d : PyData} {ss : List Sl} (h : e < n) (hp : noPin (sl ρ i) = true) (hl : i < ρ.length) (hf : f [.pin (.exn e)] = .ok d ss) : tryB n i f (.exc e ρ) = .rt d (ρ.set i .none) := by
  show (if (decide (e < n) && (noPin (sl ρ i) && decide (i < ρ.length))) = true then (f [.pin (.exn e)]).ret i ρ else .bad) = _
  rw [if_pos (by rw [decide_eq_true h, hp, decide_eq_true hl]; rfl), hf]; rfl
theorem menu_some {fs : List Fn} {q : AA} {f : Fn} {i : Int} (h : atI fs i = some f) : menuB fs q (.int i) ρ = aCall f q ρ := by
  show (match atI fs i with | some f => aCall f q ρ | none => .bad) = _
  rw [h]
theorem oIn_il {x : Int} {ns : List Int} : oIn (.int x) (il ns) = some (.bool (decide (x ∈ ns))) := by
  show (dints _).map _ = _
  rw [dints_map]; rfl
theorem oNIn_il {x : Int} {ns : List Int} : oNIn (.int x) (il ns) = some (.bool (!decide (x ∈ ns))) := by
  show (dints _).map _ = _
  rw [dints_map]; rfl
end
end DL
namespace DL
open PySem PySem.Spec PyProof.Rows L2
theorem cls_of {ca : Nat → Addr} {n j : Nat} {c : Addr} (h : ((List.range n).map ca)[j]? = some c) : Value.ref (ca j) = .ref c := by
  rw [List.getElem?_map] at h
  obtain ⟨k, hk, rfl⟩ := Option.map_eq_some_iff.mp h
  have := (List.getElem?_eq_some_iff.mp hk)
  obtain ⟨q1, q2⟩ := this
  rw [List.getElem_range] at q2
  rw [q2]
theorem sub_be {K : Fr} {c L : Addr} {cd : ClassData} (h : PySem.W.clsIn K c = some cd) (hm : cd.mro = [.ref c, .ref L, .type "ValueError", .type "Exception", .type "BaseException", .type "object"]) : PySem.W.subIn K (.ref c) (.type "BaseException") = some true := by
  show (PySem.W.clsIn K c).bind _ = _
  rw [h]
  show (if cd.mro.isEmpty then none else some (cd.mro.contains _)) = _
  rw [hm]; simp [List.contains_cons]
theorem mro_obj {K : Fr} {c L : Addr} {cd : ClassData} (h : PySem.W.clsIn K c = some cd) (hm : cd.mro = [.ref c, .ref L, .type "ValueError", .type "Exception", .type "BaseException", .type "object"]) : PySem.W.mroIn K c (.type "object") = some true := by
  show (PySem.W.clsIn K c).bind _ = _
  rw [h]
  show (if cd.mro.isEmpty then none else some (cd.mro.contains _)) = _
  rw [hm]; simp [List.contains_cons]
def AllQ {α : Type} (P : α → Prop) : List α → Prop
  | [] => True
  | a :: r => P a ∧ AllQ P r
theorem all_mem {α : Type} {P : α → Prop} : ∀ {l : List α}, AllQ P l → ∀ x ∈ l, P x
  | _ :: _, ⟨h, r⟩, x, hx => by
    rcases List.mem_cons.mp hx with rfl | hx
    · exact h
    · exact all_mem r x hx
end DL
namespace DL
open PySem PySem.Spec PyProof.Rows L2
/-- a comprehension within a comprehension -/
def relS (scope sc : Scope) : Scope := { scope with names := scope.names.map fun (n, k) => if (k == .free && sc.kind == .function && sc.names.lookup n == some .cell) then (n, .cell) else (n, k) }
theorem blkOk_in {X : Cx} {s : Shared} {H : Hp} {C : Addr} {cl : List (Str × Addr)} {fp : List Addr} {N : List Str} {sc0 scope0 scope : Scope} {own : List (Str × Nat)} (hN : X.N = N) (h0 : X.env.scope = sc0) (h : blkC N (relS scope0 sc0) scope own = true) :
    BlkOk (X.blk s H scope0 (compEnvC scope0 cl C X.env) fp).N (X.blk s H scope0 (compEnvC scope0 cl C X.env) fp).env.scope scope own := by
  subst hN; subst h0
  exact blkOk_by h
end DL

namespace DL
open PySem PySem.Spec PyProof.Rows L2
/-! min of a list of alike data (tuples) -/
def rMinT (K : Fr) : List V → Hp → VK → Prop := fun vs H Q => ∃ (a : Addr) (its : List V) (x : D) (ds : List D), vs = [V.ref a] ∧ SqL K H a its ∧ DpAll K H its (x :: ds) ∧ W.AlikeAll (x :: ds) ∧ SeqAt.shaped (.list (x :: ds)) = true ∧
  ∀ (i : Nat) (v : V), its[i]? = some v → (x :: ds)[i]? = some (PySem.W.minD x ds) → Q v H
theorem cr_minT {X : Cx} (hc : X.calm = true) (hu : X.A.units + 64 < cLine) : CallR X (.builtin "min") (rMinT X.K) := by
  intro pins s σ H vs us Q I r h
  obtain ⟨a, its, x, ds, rfl, hs, hd, ha, hsh, q⟩ := h
  obtain ⟨uts, rv, hl, _⟩ := I.list hs
  rw [Vals.ref1 r]
  obtain ⟨as, hr⟩ := Dp.readsAll I (x :: ds) its uts hd rv
  have hlen : uts.length = ds.length + 1 := SeqAt.ReadsAll.length (x :: ds) uts as hr
  have hn : uts.toArray.size = ds.length + 1 := by simpa using hlen
  have hdep : PyData.depthAll (x :: ds) + 1 ≤ 64 := by
    unfold SeqAt.shaped at hsh
    rw [Bool.and_eq_true] at hsh
    have := of_decide_eq_true hsh.2
    rw [PyData.depth] at this
    omega
  refine PySem.call_min_walkH (PySem.W.iter_listW (A := X.A.in1) (I.ok.hd hc) hl.isList fun s₂ e Wk st hfp hw hk => ?_)
  refine ⟨_, _, _, _, _, _, _, s.heap, _, rfl, Wk, st, hfp, by omega, hw, hk, PySem.W.cmpIn_lt (A := X.A.in1) (show ReadsAll s.heap uts.toArray.toList (x :: ds) as from hr) ha (by show X.A.units + 1 + _ < _; omega), fun v s' hP m => ?_⟩
  obtain ⟨h', tk, rfl, hk'⟩ := PySem.W.moved_old e rfl m
  have e1 : uts.toArray.size - 1 = ds.length := by omega
  have e2 := PySem.W.argBest_fold PySem.W.dataLt PyData.none x ds ds.length (Nat.le_refl _)
  rw [List.take_length] at e2
  rw [e1] at hP
  generalize argBest (fun i j => PySem.W.dataLt ((x :: ds).getD i PyData.none) ((x :: ds).getD j PyData.none)) ds.length = k at hP e2
  have hu2 : uts[k]? = some v := by simpa using hP
  have hkl : k < uts.length := (List.getElem?_eq_some_iff.mp hu2).1
  have hil : its.length = uts.length := rv.length
  have hik : its[k]? = some its[k] := List.getElem?_eq_getElem (by omega)
  obtain ⟨u, h1, h2⟩ := Vals.get rv hik
  rw [hu2] at h1
  cases h1
  have hxk : (x :: ds)[k]? = some (PySem.W.minD x ds) := by
    rw [List.getElem?_eq_getElem (by rw [List.length_cons]; omega)]
    have e3 := e2.2
    rw [List.getD_eq_getElem?_getD, List.getElem?_eq_getElem (by rw [List.length_cons]; omega)] at e3
    exact congrArg some e3
  exact ⟨its[k], H, I.kept hk', h2, q k _ hik hxk⟩
def isN : D → Bool
  | .none => true
  | _ => false
def okT (xs : List D) : Bool := (xs.all fun x => xs.all fun y => PySem.W.alike x y) && (xs.all fun x => !isN x) && SeqAt.shaped (.list xs)
theorem okT_alike {xs : List D} (h : okT xs = true) : W.AlikeAll xs ∧ SeqAt.shaped (.list xs) = true := by
  unfold okT at h
  rw [Bool.and_eq_true, Bool.and_eq_true] at h
  obtain ⟨⟨h1, h2⟩, h3⟩ := h
  refine ⟨⟨fun x hx y hy => List.all_eq_true.mp (List.all_eq_true.mp h1 x hx) y hy, fun x hx e => ?_⟩, h3⟩
  have := List.all_eq_true.mp h2 x hx
  rw [e] at this; cases this
def oMinT : List D → Option D
  | [.list (x :: ds)] => if okT (x :: ds) = true then some (PySem.W.minD x ds) else none
  | _ => none
theorem cs_minT {g : G} : CS g (rMinT g.K) oMinT := CS.sc fun F H vs ds d Q e rs hf k => by
  unfold oMinT at hf
  split at hf
  · rename_i x xs
    split at hf
    · rename_i c
      cases hf
      obtain ⟨c1, c2⟩ := okT_alike c
      cases rs with | cons r1 r2 =>
      cases r2
      cases r1 with | lst h r =>
      refine ⟨_, _, x, xs, rfl, sqL_of (e _ _ h), (r.mono e).dp (SeqAt.canLay_of_shaped c2), c1, c2, fun i v hi hx => ?_⟩
      obtain ⟨v', h3, h4⟩ := r.get hx
      rw [hi] at h3
      cases h3
      exact k _ h4
    · cases hf
  · cases hf
section
variable {X : Cx} {g : G} {E : EX} {K : Fr} {a : Expr} {pos : Pos}
theorem pd_minT {es : List Expr} {t : TA} {q : AD} {p : Pos} (hu : X.A.units + 64 < cLine) (hm : X.mg "min" = none) (ha : PDD X g E (a :: es) t q) (hg : Gl X "min" := by rfl) (he : starEach (a :: es) X.env = (false, eval a X.env) :: starEach es X.env := by rfl) (hpl : (backTo pos (starEach es X.env)).any (·.1) = false := by rfl) (hc : X.calm = true := by rfl) (hK : X.K = K := by rfl) : PD X g E (.Call (.Name "min" p) (a :: es) [] pos) (tCB (rMinT K) t) (aCB oMinT q) := by
  subst hK
  exact pd_cb (cr_minT hc hu) (cs_minT (g := g.at X.K)) bb_min hm ha hg (by decide) (by decide) he hpl
end
/-! of tuples of ints: by the first that is unlike -/
def lexL : List Int → List Int → Bool
  | a :: r, b :: s => if a = b then lexL r s else decide (a < b)
  | [], _ :: _ => true
  | _, [] => false
abbrev tpl (l : List Int) : PyData := .tuple (l.map .int)
theorem alike_tpl : ∀ l m : List Int, PySem.W.alikeAll (l.map .int) (m.map .int) = true
  | [], [] => by simp [PySem.W.alikeAll]
  | [], _ :: _ => by simp [PySem.W.alikeAll]
  | _ :: _, [] => by simp [PySem.W.alikeAll]
  | a :: l, b :: m => by
    have := alike_tpl l m
    simp [PySem.W.alikeAll, PySem.W.alike, this]
theorem lt_tpl : ∀ l m : List Int, l.length = m.length → PySem.W.dataLt (tpl l) (tpl m) = lexL l m := by
  intro l m
  rw [PySem.W.dataLt_tuple]
  revert m
  induction l with
  | nil =>
    intro m h
    cases m with
    | nil => rfl
    | cons b m => simp at h
  | cons a l ih =>
    intro m h
    cases m with
    | nil => simp at h
    | cons b m =>
      rw [List.map_cons, List.map_cons]
      unfold lexL
      by_cases c : a = b
      · rw [if_pos c, PySem.W.dataLt_all_yes (by simp [PySem.W.alike]) (by simp [PyData.eqv, c]), ih m (by simpa using h)]
      · rw [if_neg c, PySem.W.dataLt_all_no (by simp [PySem.W.alike]) (by simp [PyData.eqv, c]), PySem.W.dataLt_int]
/-- the least of tuples of ints -/
def minT (x : List Int) (xs : List (List Int)) : List Int := xs.foldl (fun a y => if lexL y a then y else a) x
theorem minT_data (n : Nat) : ∀ (xs : List (List Int)) (x : List Int), x.length = n → (∀ y ∈ xs, y.length = n) → PySem.W.minD (tpl x) (xs.map tpl) = tpl (minT x xs)
  | [], _, _, _ => rfl
  | y :: xs, x, h1, h2 => by
    have hy := h2 y List.mem_cons_self
    have ih := fun z hz => minT_data n xs z hz (fun y hy => h2 y (List.mem_cons_of_mem _ hy))
    unfold PySem.W.minD minT at ih ⊢
    rw [List.map_cons, List.foldl_cons, List.foldl_cons]
    simp only [lt_tpl y x (by omega)]
    cases lexL y x with
    | true => exact ih y hy
    | false => exact ih x h1
theorem canLay_tpl (l : List Int) : (tpl l).canLay0 = true := by
  simp only [PyData.canLay0]
  induction l with
  | nil => rfl
  | cons a l ih => rw [List.map_cons, PyData.canLayAll0, ih]; rfl
theorem depth_ints : ∀ l : List Int, PyData.depthAll (l.map .int) = 0
  | [] => rfl
  | a :: l => by rw [List.map_cons, PyData.depthAll, depth_ints l]; rfl
theorem shaped_tpls (xs : List (List Int)) : SeqAt.shaped (.list (xs.map tpl)) = true := by
  have h1 : PyData.canLayAll0 (xs.map tpl) = true := by
    induction xs with
    | nil => rfl
    | cons a l ih => rw [List.map_cons, PyData.canLayAll0, ih, canLay_tpl]; rfl
  have h2 : PyData.depthAll (xs.map tpl) ≤ 1 := by
    clear h1
    induction xs with
    | nil => exact Nat.zero_le _
    | cons a l ih =>
      rw [List.map_cons, PyData.depthAll, PyData.depth, depth_ints]
      omega
  unfold SeqAt.shaped
  rw [Bool.and_eq_true, decide_eq_true_eq, PyData.depth]
  exact ⟨by simp only [PyData.canLay0]; exact h1, by omega⟩
theorem okT_tpls (xs : List (List Int)) : okT (xs.map tpl) = true := by
  unfold okT
  rw [Bool.and_eq_true, Bool.and_eq_true]
  refine ⟨⟨List.all_eq_true.mpr fun x hx => List.all_eq_true.mpr fun y hy => ?_, List.all_eq_true.mpr fun x hx => ?_⟩, shaped_tpls xs⟩
  · obtain ⟨l, _, rfl⟩ := List.mem_map.mp hx
    obtain ⟨m, _, rfl⟩ := List.mem_map.mp hy
    simp only [PySem.W.alike]
    exact alike_tpl l m
  · obtain ⟨l, _, rfl⟩ := List.mem_map.mp hx
    rfl
theorem oMinT_tpls {n : Nat} {x : List Int} {xs : List (List Int)} (h1 : x.length = n) (h2 : ∀ y ∈ xs, y.length = n) : oMinT [.list ((x :: xs).map tpl)] = some (tpl (minT x xs)) := by
  show (if _ then some (PySem.W.minD (tpl x) (xs.map tpl)) else none) = _
  have hk : okT (tpl x :: xs.map tpl) = true := okT_tpls (x :: xs)
  rw [if_pos hk, minT_data n xs x h1 h2]
end DL

/-! a OP b OP c OP d -/
namespace DL
open PySem PySem.Spec PyProof.Rows L2
section
variable {X : Cx} {a b c d : Expr} {ta tb tc td : TE} {pos : Pos}
def tChain3 (r r' r'' : R2) (ta tb tc td : TE) : TE := fun σ H Q => ta σ H fun x H1 => tb σ H1 fun y H2 => r x y H2 fun z H3 => ∃ k, z = .bl k ∧
  (if k = true then tc σ H3 fun u H4 => r' y u H4 fun z2 H5 => ∃ k2, z2 = .bl k2 ∧ (if k2 = true then td σ H5 fun w H6 => r'' u w H6 Q else Q (.bl false) H5) else Q (.bl false) H3)
theorem pt_chain3 {op op' op'' : CmpOp} {r r' r'' : R2} (ho : OpR X (compareOp op) r) (ho' : OpR X (compareOp op') r') (ho'' : OpR X (compareOp op'') r'') (ha : PE X a ta) (hb : PE X b tb) (hc : PE X c tc) (hd : PE X d td)
    (hm : lastMarks [op, op', op''] [b, c, d] = false := by with_unfolding_all rfl) : PT X (.Compare a [op, op', op''] [b, c, d] pos) (tTest (tChain3 r r' r'' ta tb tc td)) := by
  refine ⟨fun pins s σ H Q I h => ?_⟩
  refine isTrue_chain (thn (ha.run pins s σ H _ I h) fun v s1 ⟨x, H1, I1, r1, q1⟩ => test_link (thn (hb.run pins s1 σ H1 _ I1 q1) fun u s2 ⟨y, H2, I2, r2, q2⟩ =>
    thn (ho pins s2 σ H2 x y v u _ I2 r1 r2 q2) fun d0 s3 ⟨z, H3, I3, r3, k, e, q3⟩ => ?_)) hm
  subst e
  cases r3
  refine wpAny_truthy_bool ?_
  cases k with
  | false =>
    obtain ⟨k', e', q'⟩ := q3
    cases e'
    exact ite_ff ⟨H3, I3, q'⟩
  | true =>
    refine ite_tt (test_link (thn (hc.run pins s3 σ H3 _ I3 q3) fun w' s4 ⟨z', H4, I4, r4, q4⟩ => thn (ho' pins s4 σ H4 y z' u w' _ I4 r2 r4 q4) fun d' s5 ⟨z2, H5, I5, r5, k2, e2, q5⟩ => ?_))
    subst e2
    cases r5
    refine wpAny_truthy_bool ?_
    cases k2 with
    | false =>
      obtain ⟨k', e', q'⟩ := q5
      cases e'
      exact ite_ff ⟨H5, I5, q'⟩
    | true =>
      refine ite_tt (test_last (thn (hd.run pins s5 σ H5 _ I5 q5) fun w2 s6 ⟨z3, H6, I6, r6, q6⟩ => thn (ho'' pins s6 σ H6 z' z3 w' w2 _ I6 r4 r6 q6) fun d'' s7 ⟨z4, H7, I7, r7, k3, e3, q7⟩ => ?_))
      subst e3
      cases r7
      exact wpAny_truthy_bool ⟨H7, I7, q7⟩
end
section
variable {X : Cx} {g : G} {E : EX}
def aChain3 (f f' f'' : D → D → Option D) (a b c d : AE) : AE := fun ρ => (a ρ).bind fun d1 ρ1 => (b ρ1).bind fun d2 ρ2 => match f d1 d2 with
  | some (.bool true) => (c ρ2).bind fun d3 ρ3 => (match f' d2 d3 with
    | some (.bool true) => (d ρ3).bind fun d4 ρ4 => lift (f'' d3 d4) ρ4
    | some (.bool false) => .ok (.bool false) ρ3
    | _ => .bad)
  | some (.bool false) => .ok (.bool false) ρ2
  | _ => .bad
theorem se_chain3 {r r' r'' : R2} {f f' f'' : D → D → Option D} {ta tb tc td : TE} {a b c dd : AE} (hr : RS g r f) (hr' : RS g r' f') (hr'' : RS g r'' f'') (ha : SE g E ta a) (hb : SE g E tb b) (hc : SE g E tc c) (hd : SE g E td dd) : SE g E (tChain3 r r' r'' ta tb tc td) (aChain3 f f' f'' a b c dd) := fun s Q ok h =>
  ha s _ ok ((Aft.bind h).mono fun d1 F1 H1 W1 ρ1 ok1 go1 h1 v1 r1 =>
    hb ⟨F1, H1, W1, s.σ, ρ1⟩ _ ok1 ((Aft.bind h1).mono fun d2 F2 H2 W2 ρ2 ok2 go2 h2 v2 r2 => by
      split at h2
      · rename_i e
        refine hr ⟨F2, H2, W2, s.σ, ρ2⟩ v1 v2 d1 d2 _ _ ok2 (r1.mono go2.f) r2 e fun v F H ok3 go3 r3 => ?_
        cases r3
        refine ⟨true, rfl, ?_⟩
        have h2' : Aft g E ⟨F, H, W2, s.σ, ρ2⟩ ((c ρ2).bind fun d3 ρ3 => (match f' d2 d3 with
            | some (.bool true) => (dd ρ3).bind fun d4 ρ4 => lift (f'' d3 d4) ρ4
            | some (.bool false) => .ok (.bool false) ρ3
            | _ => .bad)) (fun d t => ∀ v, Rep g.K t.F v d → Q v t.H) := by
          revert h2
          cases (c ρ2).bind fun d3 ρ3 => (match f' d2 d3 with
            | some (.bool true) => (dd ρ3).bind fun d4 ρ4 => lift (f'' d3 d4) ρ4
            | some (.bool false) => .ok (.bool false) ρ3
            | _ => .bad) with
          | ok d ρ' => exact fun h2 F' H' W' ok' go' => h2 F' H' W' ok' (go3.trans go')
          | exc x ρ' => exact fun h2 F' H' W' ok' go' => h2 F' H' W' ok' (go3.trans go')
          | bad => exact fun h2 => h2
        refine iteT (hc ⟨F, H, W2, s.σ, ρ2⟩ _ ok3 ((Aft.bind h2').mono fun d3 F4 H4 W4 ρ4 ok4 go4 h4 v4 r4 => ?_))
        split at h4
        · rename_i e2
          refine hr' ⟨F4, H4, W4, s.σ, ρ4⟩ v2 v4 d2 d3 _ _ ok4 (r2.mono (go3.f.trans go4.f)) r4 e2 fun v F5 H5 ok5 go5 r5 => ?_
          cases r5
          refine ⟨true, rfl, ?_⟩
          have h4' : Aft g E ⟨F5, H5, W4, s.σ, ρ4⟩ ((dd ρ4).bind fun d4 ρ5 => lift (f'' d3 d4) ρ5) (fun d t => ∀ v, Rep g.K t.F v d → Q v t.H) := by
            revert h4
            cases (dd ρ4).bind fun d4 ρ5 => lift (f'' d3 d4) ρ5 with
            | ok d ρ' => exact fun h2 F' H' W' ok' go' => h2 F' H' W' ok' (go5.trans go')
            | exc x ρ' => exact fun h2 F' H' W' ok' go' => h2 F' H' W' ok' (go5.trans go')
            | bad => exact fun h2 => h2
          refine iteT (hd ⟨F5, H5, W4, s.σ, ρ4⟩ _ ok5 ((Aft.bind h4').mono fun d4 F6 H6 W6 ρ6 ok6 go6 h6 v6 r6 => ?_))
          obtain ⟨d, hf, k⟩ := h6.lift
          exact hr'' ⟨F6, H6, W6, s.σ, ρ6⟩ v4 v6 d3 d4 d Q ok6 (r4.mono (go5.f.trans go6.f)) r6 hf fun v F H ok7 go7 r7 => k F H _ ok7 go7 v r7
        · rename_i e2
          refine hr' ⟨F4, H4, W4, s.σ, ρ4⟩ v2 v4 d2 d3 _ _ ok4 (r2.mono (go3.f.trans go4.f)) r4 e2 fun v F5 H5 ok5 go5 r5 => ?_
          cases r5
          exact ⟨false, rfl, iteF (h4 F5 H5 W4 ok5 go5 _ (.bl _))⟩
        · exact h4.elim
      · rename_i e
        refine hr ⟨F2, H2, W2, s.σ, ρ2⟩ v1 v2 d1 d2 _ _ ok2 (r1.mono go2.f) r2 e fun v F H ok3 go3 r3 => ?_
        cases r3
        exact ⟨false, rfl, iteF (h2 F H W2 ok3 go3 _ (.bl _))⟩
      · exact h2.elim))
end
section
variable {X : Cx} {g : G} {E : EX} {a b c d : Expr} {ta tb tc td : TE} {α β γ δ : AE} {pos : Pos}
theorem ptd_leLtLt (ha : PD X g E a ta α) (hb : PD X g E b tb β) (hc : PD X g E c tc γ) (hd : PD X g E d td δ) (hm : lastMarks [.LtE, .Lt, .Lt] [b, c, d] = false := by with_unfolding_all rfl) :
    PTD X g E (.Compare a [.LtE, .Lt, .Lt] [b, c, d] pos) (tTest (tChain3 (rI0 fun i j => .bl (decide (i ≤ j))) (rI0 fun i j => .bl (decide (i < j))) (rI0 fun i j => .bl (decide (i < j))) ta tb tc td)) (aTest (aChain3 oLe oLt oLt α β γ δ)) :=
  ⟨pt_chain3 op_le op_lt op_lt ha.pe hb.pe hc.pe hd.pe hm, st_test (se_chain3 (rs_cmp _) (rs_cmp _) (rs_cmp _) ha.se hb.se hc.se hd.se)⟩
end
/-! evaluation -/
def kCh4 (f'' : D → D → Option D) (d : AE) (d3 : D) (x : Option D) (ρ : List Sl) : Res PyData := match x with
  | some (.bool true) => (d ρ).bind (kLift (f'' d3))
  | some (.bool false) => .ok (.bool false) ρ
  | _ => .bad
def kCh3 (f' f'' : D → D → Option D) (d : AE) (d2 d3 : D) (ρ : List Sl) : Res PyData := kCh4 f'' d d3 (f' d2 d3) ρ
def kCh2 (f' f'' : D → D → Option D) (c d : AE) (d2 : D) (x : Option D) (ρ : List Sl) : Res PyData := match x with
  | some (.bool true) => (c ρ).bind (kCh3 f' f'' d d2)
  | some (.bool false) => .ok (.bool false) ρ
  | _ => .bad
def kCh1 (f f' f'' : D → D → Option D) (c d : AE) (d1 d2 : D) (ρ : List Sl) : Res PyData := kCh2 f' f'' c d d2 (f d1 d2) ρ
def kCh (f f' f'' : D → D → Option D) (b c d : AE) (d1 : D) (ρ : List Sl) : Res PyData := (b ρ).bind (kCh1 f f' f'' c d d1)
theorem e_chain3 {f f' f'' : D → D → Option D} {a b c d : AE} {ρ : List Sl} : aChain3 f f' f'' a b c d ρ = (a ρ).bind (kCh f f' f'' b c d) := rfl
end DL

namespace DL
open PySem PySem.Spec PyProof.Rows L2
/-! sorted of a list of alike tuples -/
abbrev ordT : D → D → Bool := PySem.W.dataLe false fun d : D => d
theorem each_vals : ∀ {bs : List (V × D)} {us : List Value}, Vals (bs.map (·.1)) us → PySem.W.EachIs (fun v (b : V × D) => RelV b.1 v) us bs
  | [], _, r => by cases r; exact .nil
  | b :: bs, _, r => by
    cases r with
    | cons h r => exact .cons h (each_vals r)
theorem vals_each : ∀ {bs : List (V × D)} {us : List Value}, PySem.W.EachIs (fun v (b : V × D) => RelV b.1 v) us bs → Vals (bs.map (·.1)) us
  | _, _, .nil => .nil
  | _, _, .cons h r => .cons h (vals_each r)
def rSortedD (K : Fr) : List V → Hp → VK → Prop := fun vs H Q => ∃ (a : Addr) (bs : List (V × D)), vs = [V.ref a] ∧ SqL K H a (bs.map (·.1)) ∧ DpAll K H (bs.map (·.1)) (bs.map (·.2)) ∧ PySem.W.AllAlike (bs.map (·.2)) ∧ PySem.W.Sortable (bs.map (·.2)) ∧ (∀ b ∈ bs, b.2.depth ≤ 60) ∧
  ∀ p, H p = none → Q (.ref p) (upd H p (.lst ((bs.mergeSort (PySem.W.dataLe false (fun b : V × D => b.2))).map (·.1))))
theorem cr_sortedD {X : Cx} (hu : X.A.units + 64 < cLine) : CallR X (.builtin "sorted") (rSortedD X.K) := by
  intro pins s σ H vs us Q I r h
  obtain ⟨a, bs, rfl, hs, hd, hal, hso, hdep, q⟩ := h
  obtain ⟨its, rv, hl, hz⟩ := I.list hs
  rw [Vals.ref1 r]
  obtain ⟨as, hr⟩ := Dp.readsAll I (bs.map (·.2)) _ its hd rv
  rw [List.length_map] at hz
  refine PySem.W.sorted_data (vs := its) (bs := bs) (enc := fun b : V × D => b.2) hl.isList (each_vals rv) (PySem.W.readsAll_each _ hr) hal hso hz (fun b hb => by have := hdep b hb; omega) fun out h1 h2 => ?_
  obtain ⟨ep, he'⟩ := PyProof.Rows.sortedAll_at s.heap its out.toArray
  have hlen : ((bs.mergeSort (PySem.W.dataLe false (fun b : V × D => b.2))).map (·.1)).length ≤ sizeLine := by
    rw [List.length_map, List.length_mergeSort]; exact hz
  exact ⟨.ref _, upd H (s.heap.objs.size + 1) (.lst ((bs.mergeSort (PySem.W.dataLe false (fun b : V × D => b.2))).map (·.1))), I.laid (t' := s.toks) (fun _ _ => PyProof.Rows.sortedAll_old) (Nat.le_succ _) ⟨hlen, out, ep, vals_each h2, he'⟩, rfl, q _ (I.hok.fresh (Nat.le_succ _))⟩
def isTup1 : D → Bool
  | .tuple (_ :: _) => true
  | _ => false
def okS (xs : List D) : Bool := (xs.all fun x => xs.all fun y => PySem.W.alike x y) && (xs.all fun x => isTup1 x) && (xs.all fun x => decide (x.depth ≤ 60)) && SeqAt.shaped (.list xs)
def oSortedT : List D → Option D
  | [.list ds] => if okS ds = true then some (.list (ds.mergeSort ordT)) else none
  | _ => none
theorem repL_pairs {K : Fr} {F : Hp} : ∀ {bs : List (V × D)}, RepL K F (bs.map (·.1)) (bs.map (·.2)) ↔ ∀ b ∈ bs, Rep K F b.1 b.2
  | [] => ⟨fun _ b h => absurd h List.not_mem_nil, fun _ => .nil⟩
  | b :: bs => ⟨fun h => by
      cases h with
      | cons h r =>
        intro c hc
        rcases List.mem_cons.mp hc with rfl | hc
        · exact h
        · exact repL_pairs.mp r c hc, fun h => .cons (h b List.mem_cons_self) (repL_pairs.mpr fun c hc => h c (List.mem_cons_of_mem _ hc))⟩
theorem repL_zip {K : Fr} {F : Hp} : ∀ {vs : List V} {ds : List D}, RepL K F vs ds → ∃ bs : List (V × D), vs = bs.map (·.1) ∧ ds = bs.map (·.2)
  | _, _, .nil => ⟨[], rfl, rfl⟩
  | v :: _, d :: _, .cons h r => by
    obtain ⟨bs, h1, h2⟩ := repL_zip r
    exact ⟨(v, d) :: bs, by rw [h1]; rfl, by rw [h2]; rfl⟩
theorem cs_sortedD {g : G} : CS g (rSortedD g.K) oSortedT := fun s vs ds d Q ok rs hf k => by
  unfold oSortedT at hf
  split at hf
  · rename_i xs
    split at hf
    · rename_i c
      cases hf
      unfold okS at c
      rw [Bool.and_eq_true, Bool.and_eq_true, Bool.and_eq_true] at c
      obtain ⟨⟨⟨c1, c2⟩, c3⟩, c4⟩ := c
      cases rs with | cons r1 r2 =>
      cases r2
      cases r1 with | lst h r =>
      obtain ⟨bs, rfl, rfl⟩ := repL_zip r
      refine ⟨_, bs, rfl, sqL_of (ok.ex _ _ h), (r.mono ok.ex).dp (SeqAt.canLay_of_shaped c4), fun x hx y hy => List.all_eq_true.mp (List.all_eq_true.mp c1 x hx) y hy, .inl fun x hx => ?_, fun b hb => ?_, ?_⟩
      · have := List.all_eq_true.mp c2 x hx
        unfold isTup1 at this
        split at this
        · exact ⟨_, _, rfl⟩
        · cases this
      · exact of_decide_eq_true (List.all_eq_true.mp c3 b.2 (List.mem_map.mpr ⟨b, hb, rfl⟩))
      · have e : (bs.map (·.2)).mergeSort ordT = (bs.mergeSort (PySem.W.dataLe false (fun b : V × D => b.2))).map (·.2) :=
          (List.map_mergeSort (r := PySem.W.dataLe false (fun b : V × D => b.2)) (s := ordT) (f := (·.2)) (fun a _ b _ => rfl)).symm
        rw [e] at k
        refine new_lst ok (repL_pairs.mpr fun b hb => ?_) k
        exact repL_pairs.mp r b ((List.mergeSort_perm bs _).mem_iff.mp hb)
    · cases hf
  · cases hf
section
variable {X : Cx} {g : G} {E : EX} {K : Fr} {a : Expr} {pos : Pos}
theorem pd_sortedT {es : List Expr} {t : TA} {q : AD} {p : Pos} (hu : X.A.units + 64 < cLine) (hm : X.mg "sorted" = none) (ha : PDD X g E (a :: es) t q) (hg : Gl X "sorted" := by rfl) (he : starEach (a :: es) X.env = (false, eval a X.env) :: starEach es X.env := by rfl) (hpl : (backTo pos (starEach es X.env)).any (·.1) = false := by rfl) (hK : X.K = K := by rfl) :
    PD X g E (.Call (.Name "sorted" p) (a :: es) [] pos) (tCB (rSortedD K) t) (aCB oSortedT q) := by
  subst hK
  exact pd_cb (cr_sortedD hu) (cs_sortedD (g := g.at X.K)) bb_sorted hm ha hg (by decide) (by decide) he hpl
end
/-! of tuples of ints -/
theorem okS_tpls {n : Nat} (xs : List (List Int)) (h : ∀ x ∈ xs, x.length = n + 1) : okS (xs.map tpl) = true := by
  unfold okS
  rw [Bool.and_eq_true, Bool.and_eq_true, Bool.and_eq_true]
  refine ⟨⟨⟨List.all_eq_true.mpr fun x hx => List.all_eq_true.mpr fun y hy => ?_, List.all_eq_true.mpr fun x hx => ?_⟩, List.all_eq_true.mpr fun x hx => ?_⟩, shaped_tpls xs⟩
  · obtain ⟨l, _, rfl⟩ := List.mem_map.mp hx
    obtain ⟨m, _, rfl⟩ := List.mem_map.mp hy
    simp only [PySem.W.alike]
    exact alike_tpl l m
  · obtain ⟨l, hl, rfl⟩ := List.mem_map.mp hx
    have := h l hl
    cases l with
    | nil => simp at this
    | cons a l => rfl
  · obtain ⟨l, _, rfl⟩ := List.mem_map.mp hx
    exact decide_eq_true (by rw [PyData.depth, depth_ints]; omega)
theorem lexL_irr : ∀ l : List Int, lexL l l = false
  | [] => rfl
  | a :: l => by unfold lexL; rw [if_pos rfl]; exact lexL_irr l
theorem lexL_tri : ∀ l m : List Int, lexL l m = false → lexL m l = false → l = m
  | [], [], _, _ => rfl
  | [], _ :: _, h, _ => by simp [lexL] at h
  | _ :: _, [], _, h => by simp [lexL] at h
  | a :: l, b :: m, h1, h2 => by
    unfold lexL at h1 h2
    by_cases c : a = b
    · subst c
      rw [if_pos rfl] at h1 h2
      rw [lexL_tri l m h1 h2]
    · rw [if_neg c] at h1
      rw [if_neg (fun q => c q.symm)] at h2
      have := of_decide_eq_false h1
      have := of_decide_eq_false h2
      omega
theorem lexL_trans : ∀ l m k : List Int, lexL l m = true → lexL m k = true → lexL l k = true
  | [], [], _, h, _ => by simp [lexL] at h
  | [], _ :: _, [], _, h => by simp [lexL] at h
  | [], _ :: _, _ :: _, _, _ => rfl
  | _ :: _, [], _, h, _ => by simp [lexL] at h
  | _ :: _, _ :: _, [], _, h => by simp [lexL] at h
  | a :: l, b :: m, c :: k, h1, h2 => by
    unfold lexL at h1 h2 ⊢
    by_cases c1 : a = b
    · subst c1
      rw [if_pos rfl] at h1
      by_cases c2 : a = c
      · subst c2
        rw [if_pos rfl] at h2 ⊢
        exact lexL_trans l m k h1 h2
      · rw [if_neg c2] at h2 ⊢
        exact h2
    · rw [if_neg c1] at h1
      have q1 := of_decide_eq_true h1
      by_cases c2 : b = c
      · subst c2
        rw [if_neg c1]
        exact h1
      · rw [if_neg c2] at h2
        have q2 := of_decide_eq_true h2
        rw [if_neg (by omega)]
        exact decide_eq_true (by omega)
theorem lexL_asymm (l m : List Int) (h : lexL l m = true) : lexL m l = false := by
  cases c : lexL m l with
  | false => rfl
  | true =>
    have := lexL_trans l m l h c
    rw [lexL_irr] at this; cases this
/-- a sorted list of tuples of ints is the sort of each of its rearrangements -/
theorem oSortedT_tpls {n : Nat} {xs ys : List (List Int)} (h : ∀ x ∈ xs, x.length = n + 1) (hp : ys.Perm xs) (hs : ys.Pairwise fun a b => lexL a b = true) : oSortedT [.list (xs.map tpl)] = some (.list (ys.map tpl)) := by
  show (if _ then some (PyData.list ((xs.map tpl).mergeSort ordT)) else none) = _
  rw [if_pos (okS_tpls xs h)]
  congr 2
  have hle : ∀ a ∈ xs, ∀ b ∈ xs, (!lexL b a) = ordT (tpl a) (tpl b) := fun a ha b hb => by
    show _ = (!PySem.W.dataLt (tpl b) (tpl a))
    rw [lt_tpl b a (by rw [h a ha, h b hb])]
  have e1 : (xs.map tpl).mergeSort ordT = (xs.mergeSort fun a b => !lexL b a).map tpl := (List.map_mergeSort hle).symm
  rw [e1]
  congr 1
  have hy : ∀ y ∈ ys, y.length = n + 1 := fun y hy => h y (hp.mem_iff.mp hy)
  have hs2 : ys.Pairwise fun a b => (!lexL b a) = true := by
    refine List.Pairwise.imp_of_mem (fun {a b} ha hb hab => ?_) hs
    rw [lexL_asymm a b hab]; rfl
  refine Eq.symm (PySem.W.Srt.the_of_perm (fun a b => !lexL b a) (fun x y z h1 h2 => ?_) (fun x y => ?_) (fun x y h1 h2 => ?_) hp hs2)
  · rw [Bool.not_eq_true'] at h1 h2 ⊢
    cases c : lexL z x with
    | false => rfl
    | true =>
      by_cases e : x = y
      · subst e; rw [c] at h2; cases h2
      · have : lexL x y = true := by
          cases q : lexL x y with
          | true => rfl
          | false => exact absurd (lexL_tri x y q h1) e
        have := lexL_trans z x y c this
        rw [h2] at this; cases this
  · cases c : lexL y x with
    | false => rfl
    | true => rw [lexL_asymm y x c]; rfl
  · rw [Bool.not_eq_true'] at h1 h2
    exact lexL_tri x y h2 h1
/-! sorted(set(l)) of ints -/
def setO (w : World) (p : Addr) (S : Int → Bool) (n : Nat) : HO := .ext fun h => SetR w h p S n
def rSetI (K : Fr) (w : World) : List V → Hp → VK → Prop := fun vs H Q => ∃ (a : Addr) (ns : List Int), vs = [V.ref a] ∧ SqL K H a (ns.map V.int) ∧ ns.length ≤ 1000 ∧ ∀ p c, H p = none → c ≤ ns.length → Q (.ref p) (upd H p (setO w p (fun j => decide (j ∈ ns)) c))
def rSortSet (w : World) : List V → Hp → VK → Prop := fun vs H Q => ∃ (a : Addr) (S : Int → Bool) (n : Nat), vs = [V.ref a] ∧ H a = some (setO w a S n) ∧ n < 64 ∧
  ∀ (ns : List Int) (p : Addr), ns.Pairwise (· < ·) → (∀ k, k ∈ ns ↔ S k = true) → H p = none → Q (.ref p) (upd H p (.lst (ns.map V.int)))
end DL

/-! set(l), l a list of hin; sorted of it -/
namespace L2
open PySem PySem.Spec PyProof.Rows
/-- an empty set as its class makes it -/
abbrev emptyOb (w : World) : Obj := { cls := .type "set", dict := none, data := .set #[] 0 (.fresh 0 0 (!w.params.followText "set-order")) }
section
variable {P : Program} {w : World} {A : Around} {E : Value → Shared → Prop} {u : Shared}
theorem set_of_ints {x : Addr} {its : Array Value} (zs : List Int) {Q : Value → Shared → Prop} (hnd : A.handled = none) (isl : u.heap.IsList x its) (hin : IntsAre its.toList zs) (few : zs.length + 1 < scanBound)
    (fin : ∀ (g : Heap) (tk c : Nat), SetR w g u.heap.objs.size (fun j => decide (j ∈ zs)) c → c ≤ zs.length → (∀ b o, u.heap.get? b = some o → g.get? b = some o) → Q (.ref u.heap.objs.size) { u with heap := g, toks := tk }) :
    wpAny (model P w) A (call (.type "set") [.ref x]) Q E u := by
  have size_eq : its.size = zs.length := by
    have z := hin.length
    rw [Array.length_toList] at z
    exact z
  obtain ⟨mr, tl0, mro0⟩ := F.called_set.mro
  have made0 := F.called_set.made
  have sub0 := F.called_set.sub
  refine wpAny_call (codeAny_of_tree ?_)
  show wpAny _ _ (callAny (.type "set") _) _ _ _
  refine wpAny_pure ⟨Code.quiet_builtin _ (by decide +kernel), codeAny_builtin F.entry_type_call ?_⟩
  rw [Around.under_plain (weight_type_call_type "set" [.ref x] []) rfl]
  have nt := F.called_set.notType
  have cc := F.called_set.canCreate
  have tc := F.typeCall_set_1 (.ref x)
  repeat (any_goals (first | assumption | wp_step))
  refine codeAny_mono (code_set_led1 (.ref x) (E := E) (Q₁ := fun ob u₁ => ob = .ref u.heap.objs.size ∧ u₁ = { u with heap := u.heap.push (emptyOb w) }) ⟨rfl, rfl⟩) fun r u₁ hr => ?_
  cases r with
  | error e => exact hr
  | ok fl =>
    cases fl with
    | ret ob =>
      obtain ⟨rfl, rfl⟩ := hr
      have gS : (u.heap.push (emptyOb w)).get? u.heap.objs.size = some (emptyOb w) := Heap.get?_push_size _ rfl
      have tS : Shared.TypeIs { u with heap := u.heap.push (emptyOb w) } (.ref u.heap.objs.size) "set" := ⟨_, gS, rfl⟩
      have li := F.called_set.init.lookup
      have bi := F.called_set.init.bind (.ref u.heap.objs.size)
      repeat (any_goals (first | assumption | wp_step))
      refine codeAny_mono (codeAny_call_builtin (R := wants (fun r u₂ => r = .none ∧ ∃ g tk c, u₂ = { u with heap := g, toks := tk } ∧ SetR w g u.heap.objs.size (fun j => decide (j ∈ zs)) c ∧ c ≤ zs.length ∧ (∀ b o, u.heap.get? b = some o → g.get? b = some o)) E)
        F.called_set.init.plain F.entry_set_init (check_set_init_1 tS ?_)) fun r₂ u₂ hr₂ => ?_
      · obtain ⟨ol, gl, cl, nl, dl⟩ := isl
        obtain ⟨k1, k2, k3, k4⟩ := ol
        simp only at cl dl
        subst cl; subst dl
        have gl' : (u.heap.push (emptyOb w)).get? x = some { cls := .type "list", dict := k2, data := .seq its nl, slots := k4 } := Heap.get?_push_of_some _ gl
        have sb1 := F.sub_list_set
        have sb2 := F.sub_list_frozenset
        have nd : (Value.type "list" == Value.type "dict") = false := by decide
        have isl1 : (u.heap.push (emptyOb w)).IsList x its := ⟨_, gl', rfl, nl, rfl⟩
        unfold Builtin.«set.__init__» noKeywords Builtin.Frozenset.updateFrom
        generalize hPI : pyIter = PI
        wp_walk
        subst hPI
        refine wpAny_pyIter_list isl1 ?_
        refine wpAny_bind (wpAny_runValue ?_)
        have xS : x < u.heap.objs.size := Heap.lt_size gl
        have hnd3 : A.in1.in1.in1.handled = none := by simp [hnd]
        have sz1 : (u.heap.push (emptyOb w)).objs.size = u.heap.objs.size + 1 := Heap.size_push ..
        have neI : x ≠ (u.heap.push (emptyOb w)).objs.size := by rw [sz1]; exact Nat.ne_of_lt (Nat.lt_succ_of_lt xS)
        have notf : u.heap.objs.size ∉ [(u.heap.push (emptyOb w)).objs.size, x] := by
          rw [sz1]; intro q
          rcases List.mem_cons.mp q with q | q
          · exact Nat.ne_of_lt (Nat.lt_succ_self _) q
          · rw [List.mem_singleton] at q; exact Nat.ne_of_gt xS q
        have vals : ∀ (i : Nat) (v : Value), its[i]? = some v → ∃ k t, zs[i]? = some k ∧ v = .int k t := fun i v hv => by
          have hi : i < zs.length := by rw [← size_eq]; exact (Array.getElem?_eq_some_iff.mp hv).1
          obtain ⟨t, e⟩ := PyProof.Rows.IntsAre.int_at hin i v (by rw [Array.getElem?_toList]; exact hv)
          exact ⟨zs[i], t, List.getElem?_eq_getElem hi, by rw [e, List.getD_eq_getElem?_getD, List.getElem?_eq_getElem hi] <;> rfl⟩
        refine set_update_ints ((Walks.list hnd3 _ x neI its).toS) u.heap.objs.size notf zs size_eq few vals (its.size - 0) 0 _ (by omega) (Nat.zero_le _) ⟨⟨_, Heap.get?_push_size _ rfl, rfl, rfl⟩, (isl1.push _)⟩ ⟨0, Nat.le_refl 0, setR_new_at (Heap.get?_push_of_some _ gS)⟩ ?_
        intro u' c' mv cle sR
        obtain ⟨g, g2, d2, tk, os2⟩ := u'
        have e1 : g2 = u.gens := mv.gens
        have e2 : d2 = u.drawn := mv.drawn
        have e3 : os2 = u.os := mv.os
        subst e1; subst e2; subst e3
        show wpAny _ _ _ _ _ _
        refine wpAny_pure ?_
        show wpAny _ _ (ret Value.none) _ _ _
        rw [size_eq] at cle
        refine wpAny_pure ⟨rfl, g, tk, c', rfl, sR, cle, fun b o e => ?_⟩
        have lb : b < u.heap.objs.size := Heap.lt_size e
        refine mv.heap b o (fun q => ?_) (Heap.get?_push_of_some _ (Heap.get?_push_of_some _ e))
        rw [sz1] at q
        rcases List.mem_cons.mp q with q | q
        · exact Nat.ne_of_lt lb q
        · rw [List.mem_singleton] at q; exact Nat.ne_of_lt (Nat.lt_succ_of_lt lb) q
      · cases r₂ with
        | error e => exact hr₂
        | ok fl₂ =>
          cases fl₂ with
          | ret r =>
            obtain ⟨rfl, g, tk, c', rfl, sR, cle, kp⟩ := hr₂
            repeat (any_goals (first | assumption | wp_step))
            exact fin _ _ _ sR cle kp
          | _ => exact hr₂.elim
    | _ => exact hr.elim
end
end L2
namespace DL
open PySem PySem.Spec PyProof.Rows L2
theorem setO_ok {P : Program} {w : World} {H : Hp} {h : Heap} {p : Addr} {S : Int → Bool} {n : Nat} (R : SetR w h p S n) : ObjOk P w H h p (setO w p S n) :=
  ⟨R, (by obtain ⟨o, _, _, _, ho, _⟩ := R; exact ⟨o, ho⟩), fun h1 h2 x k => x.at k⟩
theorem cr_setI {X : Cx} (hc : X.calm = true) : CallR X (.type "set") (rSetI X.K X.w) := by
  intro pins s σ H xs us Q I r h
  obtain ⟨a, ns, rfl, hs, hl, q⟩ := h
  obtain ⟨its, rv, pt, hz⟩ := I.list hs
  rw [Vals.ref1 r]
  have hi := rv.ints
  refine set_of_ints ns (I.ok.hd hc) pt.isList (its := its.toArray) hi (by unfold scanBound; omega) fun g tk c R1 hcn kp => ?_
  exact ⟨.ref s.heap.objs.size, upd H s.heap.objs.size (setO X.w s.heap.objs.size (fun j => decide (j ∈ ns)) c), I.laid (t' := tk) kp (Nat.le_refl _) (setO_ok R1), rfl, q _ c (I.hok.fresh (Nat.le_refl _)) hcn⟩
theorem cr_sortSet {X : Cx} (hc : X.calm = true) : CallR X (.builtin "sorted") (rSortSet X.w) := by
  intro pins s σ H xs us Q I r h
  obtain ⟨a, S, n, rfl, ha, h64, q⟩ := h
  rw [Vals.ref1 r]
  have R : SetR X.w s.heap a S n := (show ObjOk X.prog X.w H s.heap a (setO X.w a S n) from I.hok a _ ha).1
  refine sorted_set R (I.ok.hd hc) h64 fun s' p out c zs kp hg ho hp he hi hlt hm hn => ?_
  have hlen : (zs.map V.int).length ≤ sizeLine := by rw [List.length_map, hn]; exact Nat.le_trans (Nat.le_of_lt h64) (by decide)
  have new : ObjOk X.prog X.w (upd H p (.lst (zs.map V.int))) s'.heap p (.lst (zs.map V.int)) := ⟨hlen, out.toList, c, vals_of_ints hi, by simpa using he⟩
  exact ⟨.ref p, upd H p (.lst (zs.map V.int)), I.call' (ch := []) ho (Un.laid kp hp (I.hok.fresh hp)) (I.hok.laid kp hp new) (by rw [hg]; exact I.bare) (fun _ z => nomatch z), rfl, q zs p hlt hm (I.hok.fresh hp)⟩
def insU (x : Int) : List Int → List Int
  | [] => [x]
  | y :: r => if x < y then x :: y :: r else if x = y then y :: r else y :: insU x r
/-- the values of a list, each once, rising -/
def sortSet (ns : List Int) : List Int := ns.foldr insU []
theorem mem_insU {x z : Int} : ∀ {l : List Int}, z ∈ insU x l ↔ z = x ∨ z ∈ l
  | [] => by unfold insU; simp
  | y :: r => by
    unfold insU
    by_cases c : x < y
    · rw [if_pos c]; simp
    · rw [if_neg c]
      by_cases e : x = y
      · rw [if_pos e]; subst e; simp
      · rw [if_neg e, List.mem_cons, mem_insU, List.mem_cons]
        constructor
        · rintro (h | h | h) <;> simp [h]
        · rintro (h | h | h) <;> simp [h]
theorem up_insU {x : Int} : ∀ {l : List Int}, l.Pairwise (· < ·) → (insU x l).Pairwise (· < ·)
  | [], _ => by unfold insU; simp
  | y :: r, h => by
    have h1 := List.pairwise_cons.mp h
    unfold insU
    by_cases c : x < y
    · rw [if_pos c]
      refine List.pairwise_cons.mpr ⟨fun z hz => ?_, h⟩
      rcases List.mem_cons.mp hz with rfl | hz
      · exact c
      · have := h1.1 z hz; omega
    · rw [if_neg c]
      by_cases e : x = y
      · rw [if_pos e]; exact h
      · rw [if_neg e]
        refine List.pairwise_cons.mpr ⟨fun z hz => ?_, up_insU h1.2⟩
        rcases mem_insU.mp hz with rfl | hz
        · omega
        · exact h1.1 z hz
theorem mem_sortSet {z : Int} : ∀ {ns : List Int}, z ∈ sortSet ns ↔ z ∈ ns
  | [] => Iff.rfl
  | n :: ns => by
    show z ∈ insU n (sortSet ns) ↔ _
    rw [mem_insU, mem_sortSet, List.mem_cons]
theorem up_sortSet : ∀ ns : List Int, (sortSet ns).Pairwise (· < ·)
  | [] => .nil
  | n :: ns => up_insU (up_sortSet ns)
theorem up_uniq {l m : List Int} (h1 : l.Pairwise (· < ·)) (h2 : m.Pairwise (· < ·)) (h : ∀ z, z ∈ l ↔ z ∈ m) : l = m := by
  refine PySem.W.Srt.one l m ((List.perm_ext_iff_of_nodup (h1.imp fun q => Int.ne_of_lt q) (h2.imp fun q => Int.ne_of_lt q)).mpr h) (h1.imp fun q => Int.le_of_lt q) (h2.imp fun q => Int.le_of_lt q)
def oSortSet : List D → Option D := oInts fun ns => if ns.length ≤ 63 then some (.list ((sortSet ns).map .int)) else none
/-- sorted(set(l)) -/
def rSS (K : Fr) (w : World) : List V → Hp → VK → Prop := fun vs H Q => rSetI K w vs H fun v H1 => rSortSet w [v] H1 Q
theorem cs_SS {g : G} {w : World} : CS g (rSS g.K w) oSortSet := fun s vs ds d Q ok rs hf k => by
  obtain ⟨ns, rfl, h⟩ := oInts_inv hf
  split at h
  · rename_i c
    cases h
    obtain ⟨a, rfl, ha⟩ := rep_ints ok.ex rs
    refine ⟨a, ns, rfl, ha, by omega, fun p n hp hn => ⟨p, _, n, rfl, upd_same, by omega, fun zs p2 hz hm hp2 => ?_⟩⟩
    have e : zs = sortSet ns := up_uniq hz (up_sortSet ns) fun z => by rw [hm, decide_eq_true_eq, mem_sortSet]
    rw [e]
    obtain ⟨ok1, go1⟩ := S.Ok.junk (o := setO w p (fun j => decide (j ∈ ns)) n) ok hp
    exact new_lst (s := ⟨s.F, upd s.H p (setO w p (fun j => decide (j ∈ ns)) n), s.W, s.σ, s.ρ⟩) ok1 (RepL.of_ints _) (fun v F H ok2 go2 r => k v F H ok2 (go1.trans go2) r) p2 hp2
  · cases h
section
variable {X : Cx} {g : G} {E : EX} {K : Fr} {a : Expr} {pos pos2 : Pos}
theorem bb_set : bootBuiltins "set" = some (.type "set") := by decide +kernel
theorem pd_sortSet {es : List Expr} {t : TA} {q : AD} {p p2 : Pos} (hs : X.mg "set" = none) (hm : X.mg "sorted" = none) (ha : PDD X g E (a :: es) t q) (hg : Gl X "sorted" := by rfl) (hg2 : Gl X "set" := by rfl)
    (he : starEach (a :: es) X.env = (false, eval a X.env) :: starEach es X.env := by rfl) (hpl : (backTo pos2 (starEach es X.env)).any (·.1) = false := by rfl) (hc : X.calm = true := by rfl) (hK : X.K = K := by rfl) :
    PD X g E (.Call (.Name "sorted" p) [.Call (.Name "set" p2) (a :: es) [] pos2] [] pos) (tCB (rSS K X.w) t) (aCB oSortSet q) := by
  subst hK
  exact ⟨show PE X _ (tCB (rSortSet X.w) (tCons (tCB (rSetI X.K X.w) t) tNil)) from pe_callB (cr_sortSet hc) hg hm bb_sorted (pa_cons (pe_callTy (cr_setI hc) hg2 hs bb_set ha.pa (by decide) (by decide) he hpl) pa_nil) (by decide) (by decide), se_cb (cs_SS (g := g.at X.K)) ha.sd⟩
end
theorem oSortSet_il {ns : List Int} (h : ns.length ≤ 63) : oSortSet [il ns] = some (il (sortSet ns)) := by
  show (dints _).bind _ = _
  rw [dints_map]; exact if_pos h
end DL

/-! t[::-1], t a tuple of one and more -/
namespace HT
open PySem PyProof.Rows
section
variable {prog : Program} {w : World} {A : Around} {E : Value → Shared → Prop} {u : Shared}
theorem fm_congr {f g : Nat → Option Value} : ∀ l : List Nat, (∀ m ∈ l, f m = g m) → l.filterMap f = l.filterMap g
  | [], _ => rfl
  | m :: l, h => by
    rw [List.filterMap_cons, List.filterMap_cons, h m List.mem_cons_self, fm_congr l fun k hk => h k (List.mem_cons_of_mem _ hk)]
theorem back_pick (n : Nat) (xs : Array Value) (e : xs.size = n) : ((List.range n).filterMap fun (m : Nat) => xs[(((n : Int) - 1) + (m : Int) * -1).toNat]?).toArray = xs.toList.reverse.toArray := by
  congr 1
  subst e
  refine List.ext_getElem? fun i => ?_
  have h0 : ((List.range xs.size).filterMap fun (m : Nat) => xs[(((xs.size : Int) - 1) + (m : Int) * -1).toNat]?) = (List.range xs.size).map fun m => (xs[xs.size - 1 - m]?).getD Value.none := by
    rw [← List.filterMap_eq_map]
    refine fm_congr _ fun m hm => ?_
    have hm := List.mem_range.mp hm
    have e2 : (((xs.size : Int) - 1) + (m : Int) * -1).toNat = xs.size - 1 - m := by omega
    show xs[(((xs.size : Int) - 1) + (m : Int) * -1).toNat]? = some ((xs[xs.size - 1 - m]?).getD Value.none)
    have h3 : xs.size - 1 - m < xs.size := by omega
    rw [e2, Array.getElem?_eq_getElem h3]; rfl
  rw [h0, List.getElem?_map]
  by_cases c : i < xs.size
  · rw [List.getElem?_range c, List.getElem?_reverse (by simpa using c), Array.length_toList, Array.getElem?_toList]
    have h3 : xs.size - 1 - i < xs.size := by omega
    rw [Option.map_some, Array.getElem?_eq_getElem h3]; rfl
  · rw [List.getElem?_eq_none (by rw [List.length_range]; omega), List.getElem?_eq_none (by rw [List.length_reverse, Array.length_toList]; omega)]; rfl
theorem back_part {b vs : Addr} {z : Value} {n : Nat} {Q : Int × Int × Nat → Shared → Prop} (hs : u.heap.IsSliceOf b .none .none z) (pz : IsPart z (some (-1))) (h : Q ((n : Int) - 1, -1, n) u) :
    wpAny (model prog w) A (Builtin.Slice.sliceApplied (.ref b) (pure (n : Int))) Q E u := by
  obtain ⟨ob, hob, hcl, hdt⟩ := id hs
  unfold Builtin.Slice.sliceApplied Builtin.Slice.sliceFields
  refine wpAny_bind (wpAny_bind (wpAny_field hob hdt (x := .none) rfl (wpAny_bind (wpAny_field hob hdt (x := .none) rfl (wpAny_bind (wpAny_field hob hdt (x := z) rfl (wpAny_pure ?_)))))))
  refine wpAny_bind (slicePart_ pz ?_)
  show wpAny _ _ (if ((-1 : Int) == 0) = true then _ else _) _ _ u
  rw [if_neg (by decide)]
  refine wpAny_bind (slicePart_none (wpAny_bind (slicePart_none (wpAny_bind (wpAny_pure ?_)))))
  have e1 : Builtin.Slice.sliceAdjust none none (-1) (n : Int) = ((n : Int) - 1, -1) := rfl
  have e2 : Builtin.Slice.slicePlaces ((n : Int) - 1) (-1) (-1) = n := by
    unfold Builtin.Slice.slicePlaces
    rw [if_neg (by decide)]
    by_cases c : (n : Int) - 1 > -1
    · rw [if_pos c]
      show (((n : Int) - 1 - -1 - 1) / 1 + 1).toNat = n
      rw [Int.ediv_one]; omega
    · rw [if_neg c]; omega
  show wpAny _ _ (match Builtin.Slice.sliceAdjust none none (-1) (n : Int) with | (lo, hi) => pure (lo, (-1 : Int), Builtin.Slice.slicePlaces lo hi (-1))) _ _ u
  rw [e1]
  show wpAny _ _ (pure ((n : Int) - 1, (-1 : Int), Builtin.Slice.slicePlaces ((n : Int) - 1) (-1) (-1))) _ _ u
  rw [e2]
  exact wpAny_pure h
theorem back_tuple {t b : Addr} {xs : Array Value} {z : Value} {Q : Value → Shared → Prop} (ht : IsTup u.heap t xs) (hs : u.heap.IsSliceOf b .none .none z) (pz : IsPart z (some (-1))) (hsz : xs.size ≤ sizeLine)
    (h : Q (.ref u.heap.objs.size) { u with heap := u.heap.push { cls := .type "tuple", data := .seq xs.toList.reverse.toArray } }) : wpAny (model prog w) A (getItem (.ref t) (.ref b)) Q E u := by
  have fits : sizeOk (.seq xs.toList.reverse.toArray) := by
    show xs.toList.reverse.toArray.size ≤ sizeLine
    rw [List.size_toArray, List.length_reverse, Array.length_toList]; exact hsz
  obtain ⟨ob, hob, hcl, hdt⟩ := id hs
  have tb : u.TypeIs (.ref b) "slice" := ⟨ob, hob, hcl⟩
  unfold getItem
  try with_reducible refine wpAny_holding ?_
  first | refine wpAny_bind (wpAny_pure ?_) | skip
  refine wpAny_bind (wpAny_sequenceKey ht.typeIs (by decide) ?_)
  refine wpAny_bind (wpAny_callSpecial?_slot (name := Str.ofString "__getitem__") ht.typeIs PyProof.Rows.slot_tuple_getitem (wpAny_call_entry PyProof.Rows.slot_tuple_getitem ht.typeIs entry_tuple_getitem ?_ (args_tuple_getitem _ _)))
  show wpAny _ _ (Builtin.Tuple.tupleItemsOf (.ref t) >>= _) _ _ u
  refine wpAny_bind (tupleItemsOf_ ht ?_)
  refine wpAny_bind (wpAny_typeOf tb ?_)
  rw [if_pos (by decide)]
  refine wpAny_bind (back_part (vs := t) hs pz ?_)
  have hno : ¬ (((xs.size : Int) - 1 == 0 && (-1 : Int) == 1 && xs.size == xs.size) = true) := by
    intro q
    rw [Bool.and_eq_true, Bool.and_eq_true] at q
    exact absurd q.1.2 (by decide)
  show wpAny _ _ (if ((xs.size : Int) - 1 == 0 && (-1 : Int) == 1 && xs.size == xs.size) = true then _ else _) _ _ u
  rw [if_neg hno, back_pick xs.size xs rfl]
  first
    | exact wpAny_bind (m := Builtin.Tuple.tupleExact _) (wpAny_newObj_type (wpAny_pure ⟨_, rfl, wpAny_pure h⟩) fits)
    | exact wpAny_bind (m := Builtin.Tuple.tupleExact _) (wpAny_newObj_type (wpAny_bind (wpAny_pure (wpAny_pure ⟨_, rfl, wpAny_pure h⟩))) fits)
    | exact wpAny_bind (wpAny_bind (m := Builtin.Tuple.tupleExact _) (wpAny_newObj_type (wpAny_pure (wpAny_pure ⟨_, rfl, wpAny_pure h⟩)) fits))
end
end HT
namespace DL
open PySem PySem.Spec PyProof.Rows L2
def aRevT (a : AE) : AE := fun ρ => (a ρ).bind fun d ρ1 => match d with | .tuple ds => .ok (.tuple ds.reverse) ρ1 | _ => .bad
def tRevT (K : Fr) (te : TE) : TE := fun σ H Q => te σ H fun x H1 => ∃ a xs, x = .ref a ∧ SqT K H1 a xs ∧ ∀ p, H1 p = none → Q (.ref p) (upd H1 p (.tup xs.reverse))
theorem pe_revT {X : Cx} {e : Expr} {te : TE} {k : Nat} {p1 p2 p3 pos : Pos} (he : PE X e te) : PE X (.Subscript e (.Slice none none (some (.UnaryOp .USub (.Constant (.int 1) k p1) p2)) p3) pos) (tRevT X.K te) := by
  refine ⟨fun pins s σ H Q I h => ?_⟩
  refine Subscript_ (thn (he.run pins s σ H _ I h) fun v sa ⟨x, H1, I1, r1, a, xs, ex, hx, q⟩ => ?_)
  subst ex
  cases r1
  have step : PO X (some (.UnaryOp .USub (.Constant (.int 1) k p1) p2)) (tPart (tUn (rU fun i => .int (-i)) (tC (.int 1)))) := po_some (pe_un un_neg pe_int)
  refine wpAny_Slice (thn (po_none.run pins sa σ H1 (fun o Hx => o = none ∧ Hx = H1) I1 ⟨rfl, rfl⟩) fun vl sb ⟨l, H2, I2, pl, el, e2⟩ => ?_)
  subst el e2
  refine thn (po_none.run pins sb σ H2 (fun o Hx => o = none ∧ Hx = H2) I2 ⟨rfl, rfl⟩) fun vu sc ⟨w0, H3, I3, pu, eu, e3⟩ => ?_
  subst eu e3
  refine thn (step.run pins sc σ H3 (fun o Hx => o = some (-1) ∧ Hx = H3) I3 ⟨1, rfl, -1, rfl, rfl, rfl⟩) fun vs sd ⟨o, H4, I4, pz, eo, e4⟩ => ?_
  subst eo e4
  have I5 : Inv X pins σ H4 { sd with heap := sd.heap.push { cls := .type "slice", data := .fields #[vl, vu, vs] } } := I4.kept (t' := sd.toks) fun b ob z => Heap.get?_push_of_some _ z
  obtain ⟨its, r, ht, hz⟩ := I5.tuple hx
  have hlen := r.length
  cases pl
  cases pu
  show wpAny (model X.prog X.w) X.A (subscriptTail e (.Slice none none (some (.UnaryOp .USub (.Constant (.int 1) k p1) p2)) p3) (.ref a) (.ref sd.heap.objs.size)) (EP X pins σ Q) X.xe { sd with heap := sd.heap.push { cls := .type "slice", data := .fields #[.none, .none, vs] } }
  refine tail_any (ops := [.ref a, .ref sd.heap.objs.size]) ht.typeIs PyProof.Rows.slot_tuple_getitem.lookup ?_ (by with_unfolding_all rfl)
  refine HT.back_tuple ht (Heap.IsSliceOf.new _ .none .none vs) pz (by rw [List.size_toArray]; omega) ?_
  refine ⟨.ref _, _, I5.laid (t' := sd.toks) (o := .tup xs.reverse) (fun b ob z => Heap.get?_push_of_some _ z) (Nat.le_refl _) ?_, rfl, q _ (I5.hok.fresh (Nat.le_refl _))⟩
  exact ⟨by rw [List.length_reverse]; exact hz, _, r.reverse, _, Heap.get?_push_size _ rfl, rfl, 0, rfl⟩
theorem se_revT {g : G} {E : EX} {te : TE} {a : AE} (ha : SE g E te a) : SE g E (tRevT g.K te) (aRevT a) := fun s Q ok h =>
  ha s _ ok ((Aft.bind h).mono fun d F H W ρ ok1 go1 h1 v r => by
    cases d with
    | tuple ds =>
      cases r with | tup h2 r2 =>
      exact ⟨_, _, rfl, ok1.ex.sqT h2, fun p hp => new_tup ok1 r2.rev (fun v F' H' ok2 go2 rv => (h1 F' H' _ ok2 go2) v rv) p hp⟩
    | none => exact h1.elim
    | bool _ => exact h1.elim
    | int _ => exact h1.elim
    | str _ => exact h1.elim
    | list _ => exact h1.elim
    | dict _ => exact h1.elim)
theorem pd_revT {X : Cx} {g : G} {E : EX} {K : Fr} {a : Expr} {ta : TE} {α : AE} {pos : Pos} {k : Nat} {p1 p2 p3 : Pos} (ha : PD X g E a ta α) (hK : X.K = K := by rfl) : PD X g E (.Subscript a (.Slice none none (some (.UnaryOp .USub (.Constant (.int 1) k p1) p2)) p3) pos) (tRevT K ta) (aRevT α) := by
  subst hK
  exact ⟨pe_revT ha.pe, se_revT (g := g.at X.K) ha.se⟩
def kRevT (d : D) (ρ : List Sl) : Res D := match d with | .tuple ds => .ok (.tuple ds.reverse) ρ | _ => .bad
theorem e_revT {a : AE} {ρ : List Sl} : aRevT a ρ = (a ρ).bind kRevT := rfl
end DL

/-! dicts whose keys are ints, built by a name of their own -/
namespace DL
open PySem PySem.Spec PyProof.Rows L2
def dIs (k : Int) (p : D × D) : Bool := match p.1 with
  | .int j => decide (j = k)
  | _ => false
def dPut (es : List (D × D)) (k : Int) (d : D) : List (D × D) := if (es.any (dIs k)) = true then es.map (fun p => if dIs k p = true then (p.1, d) else p) else es ++ [(.int k, d)]
def dGet (es : List (D × D)) (k : Int) : Option D := (es.find? (dIs k)).map (·.2)
section
variable {K : Fr} {F : Hp}
theorem dIs_key (k : Int) (x : Key) (d : D) : dIs k (keyD x, d) = decide (x = Sum.inl k) := by
  cases x with
  | inl j => show decide (j = k) = _; exact decide_eq_decide.mpr ⟨fun e => by rw [e], fun e => Sum.inl.inj e⟩
  | inr s => exact (decide_eq_false fun q => nomatch q).symm
theorem repK_any {k : Int} : ∀ {kvs : List (Key × V)} {es : List (D × D)}, RepK K F kvs es → (kvs.any fun kv => decide (kv.1 = Sum.inl k)) = es.any (dIs k)
  | _, _, .nil => rfl
  | _, _, .cons h r => by
    rw [List.any_cons, List.any_cons, repK_any r, dIs_key]
theorem repK_get {k : Int} : ∀ {kvs : List (Key × V)} {es : List (D × D)}, RepK K F kvs es → (∃ v d, valV kvs (Sum.inl k) = some v ∧ dGet es k = some d ∧ Rep K F v d) ∨ (valV kvs (Sum.inl k) = none ∧ dGet es k = none)
  | _, _, .nil => .inr ⟨rfl, rfl⟩
  | _, _, .cons (k := x) (v := v) (d := d) h r => by
    by_cases c : x = Sum.inl k
    · refine .inl ⟨v, d, valV_pos c, ?_, h⟩
      unfold dGet
      rw [List.find?_cons_of_pos (by rw [dIs_key]; exact decide_eq_true c)]; rfl
    · have e2 : ∀ es : List (D × D), dGet ((keyD x, d) :: es) k = dGet es k := fun es => by
        unfold dGet
        rw [List.find?_cons_of_neg (by rw [dIs_key]; simpa using c)]
      rw [valV_neg c, e2]
      exact repK_get r
theorem repK_map {k : Int} {v : V} {d : D} (hv : Rep K F v d) : ∀ {kvs : List (Key × V)} {es : List (D × D)}, RepK K F kvs es → RepK K F (kvs.map fun kv => if kv.1 = Sum.inl k then (kv.1, v) else kv) (es.map fun p => if dIs k p = true then (p.1, d) else p)
  | _, _, .nil => .nil
  | _, _, .cons (k := x) (v := v') (d := d') h r => by
    rw [List.map_cons, List.map_cons]
    have ih := repK_map (k := k) hv r
    by_cases c : x = Sum.inl k
    · rw [if_pos c, if_pos (by rw [dIs_key]; exact decide_eq_true c)]
      exact .cons hv ih
    · rw [if_neg c, if_neg (by rw [dIs_key]; simpa using c)]
      exact .cons h ih
theorem repK_snoc {k : Int} {v : V} {d : D} (hv : Rep K F v d) : ∀ {kvs : List (Key × V)} {es : List (D × D)}, RepK K F kvs es → RepK K F (kvs ++ [(Sum.inl k, v)]) (es ++ [(.int k, d)])
  | _, _, .nil => .cons (k := Sum.inl k) hv .nil
  | _, _, .cons h r => .cons h (repK_snoc hv r)
theorem repK_put {k : Int} {v : V} {d : D} {kvs : List (Key × V)} {es : List (D × D)} (hv : Rep K F v d) (r : RepK K F kvs es) : RepK K F (putK kvs (Sum.inl k) v) (dPut es k d) := by
  unfold putK dPut
  rw [repK_any r]
  split
  · exact repK_map hv r
  · exact repK_snoc hv r
theorem repK_len : ∀ {kvs : List (Key × V)} {es : List (D × D)}, RepK K F kvs es → kvs.length = es.length
  | _, _, .nil => rfl
  | _, _, .cons _ r => congrArg (· + 1) (repK_len r)
theorem repK_keys : ∀ {kvs : List (Key × V)} {es : List (D × D)}, RepK K F kvs es → RepL K F (kvs.map fun kv => kV kv.1) (es.map (·.1))
  | _, _, .nil => .nil
  | _, _, .cons (k := x) h r => .cons (by cases x <;> constructor) (repK_keys r)
end
section
variable {g : G} {E : EX}
theorem own_dict {s : S} {i : Nat} {es : List (D × D)} (ok : s.Ok g) (h : sl s.ρ i = .own (.dict es)) : ∃ p kvs, s.σ[i]? = some (some (.ref p)) ∧ s.H p = some (.dK kvs) ∧ RepK g.K s.F kvs es := by
  obtain ⟨v, hv, hw⟩ := own_at ok h
  rcases hw with ⟨p, vs, ds', q, _⟩ | ⟨p, kvs, es', q, rfl, hp, hr⟩
  · cases q
  · cases q; exact ⟨p, kvs, hv, hp, hr⟩
theorem own_putD {t : S} {i : Nat} {p : Addr} {kvs' : List (Key × V)} {es es' : List (D × D)} (ok : t.Ok g) (hv : t.σ[i]? = some (some (.ref p))) (e : sl t.ρ i = .own (.dict es)) (r : RepK g.K t.F kvs' es') :
    (S.mk t.F (upd t.H p (.dK kvs')) t.W t.σ (t.ρ.set i (.own (.dict es')))).Ok g ∧ Go t ⟨t.F, upd t.H p (.dK kvs'), t.W, t.σ, t.ρ.set i (.own (.dict es'))⟩ :=
  S.Ok.chg ok (putS_lt e fun q => nomatch q) (fun P hP => by
    rw [e, hv] at hP
    obtain ⟨p3, vs3, q1, q2, q3, q4⟩ := hP
    cases q1
    exact ⟨q2, p, kvs', by rw [hv]; rfl, q2, upd_same, r⟩) (fun m q => by rw [e] at q; cases q)
/-- x[j] = e, x an own dict -/
def asSetD (i : Nat) (a b : AE) : AS := fun ρ => (a ρ).thn fun d ρ1 => match sl ρ1 i with
  | .own (.dict _) => (b ρ1).thn fun j ρ2 => match j, sl ρ2 i with
    | .int k, .own (.dict es) => if es.length ≤ 10000 then .nx (ρ2.set i (.own (.dict (dPut es k d)))) else .bad
    | _, _ => .bad
  | _ => .bad
theorem ss_setD {i : Nat} {te tj : TE} {a b : AE} (ha : SE g E te a) (hb : SE g E tj b) : SS g E (sDPut (tVar i) tj te) (asSetD i a b) := fun s D ok h =>
  ha s _ ok ((AftS.thn h).mono fun d F H W ρ ok1 go1 k v1 r1 => by
    dsimp only at k
    split at k
    · rename_i es0 e0
      obtain ⟨p, kvs, hv, hp, hr⟩ := own_dict (s := ⟨F, H, W, s.σ, ρ⟩) ok1 e0
      refine ⟨.ref p, hv, hb ⟨F, H, W, s.σ, ρ⟩ _ ok1 ((AftS.thn k).mono fun j F2 H2 W2 ρ2 ok2 go2 k2 v2 r2 => ?_)⟩
      dsimp only at k2
      split at k2
      · rename_i z es e1
        split at k2
        · rename_i c
          obtain ⟨p2, kvs2, hv2, hp2, hr2⟩ := own_dict (s := ⟨F2, H2, W2, s.σ, ρ2⟩) ok2 e1
          have ev : p = p2 := by
            have : (some (some (V.ref p))) = some (some (V.ref p2)) := hv.symm.trans hv2
            simpa using this
          subst ev
          cases r2
          have hl : kvs2.length < sizeLine := by rw [repK_len hr2]; exact Nat.lt_of_le_of_lt c (by decide)
          refine ⟨p, _, rfl, DPut.k (k := Sum.inl z) hp2 hl, ?_⟩
          obtain ⟨ok3, go3⟩ := own_putD (t := ⟨F2, H2, W2, s.σ, ρ2⟩) ok2 hv2 e1 (repK_put (k := z) (r1.mono go2.f) hr2)
          exact k2 _ rfl ok3 go3
        · exact k2.elim
      · exact k2.elim
    · exact k.elim)
/-- x.get(j, z), x an own dict -/
def aGetD (i : Nat) (b c : AE) : AE := fun ρ => match sl ρ i with
  | .own (.dict _) => (b ρ).bind fun j ρ1 => (c ρ1).bind fun z ρ2 => match j, sl ρ2 i with
    | .int k, .own (.dict es) => .ok ((dGet es k).getD z) ρ2
    | _, _ => .bad
  | _ => .bad
theorem se_getD {i : Nat} {tj tz : TE} {b c : AE} (hb : SE g E tj b) (hc : SE g E tz c) : SE g E (tDGet2 (tVar i) tj tz) (aGetD i b c) := fun s Q ok h => by
  unfold aGetD at h
  split at h
  · rename_i es0 e0
    obtain ⟨p, kvs, hv, hp, hr⟩ := own_dict ok e0
    refine ⟨.ref p, hv, p, rfl, .inl ⟨kvs, .inl hp⟩, hb s _ ok ((Aft.bind h).mono fun j F1 H1 W1 ρ1 ok1 go1 h1 v1 r1 => hc ⟨F1, H1, W1, s.σ, ρ1⟩ _ ok1 ((Aft.bind h1).mono fun z F2 H2 W2 ρ2 ok2 go2 h2 v2 r2 => ?_))⟩
    dsimp only at h2
    split at h2
    · rename_i k es e1
      obtain ⟨p2, kvs2, hv2, hp2, hr2⟩ := own_dict (s := ⟨F2, H2, W2, s.σ, ρ2⟩) ok2 e1
      have ev : p = p2 := by
        have : (some (some (V.ref p))) = some (some (V.ref p2)) := hv.symm.trans hv2
        simpa using this
      subst ev
      cases r1
      refine ⟨_, DGet.k (k := Sum.inl k) hp2, ?_⟩
      have hh := Aft.here (s := ⟨F2, H2, W2, s.σ, ρ2⟩) ok2 h2
      rcases repK_get (k := k) hr2 with ⟨v, d, q1, q2, q3⟩ | ⟨q1, q2⟩
      · rw [q1]
        rw [q2] at hh
        exact hh v q3
      · rw [q1]
        rw [q2] at hh
        exact hh v2 r2
    · exact h2.elim
  · exact h.elim
/-- list(x), x a dict -/
def oListD : List D → Option D
  | [.dict es] => some (.list (es.map (·.1)))
  | _ => none
theorem cs_listD : CS g rListD oListD := fun s vs ds d Q ok rs hf k => by
  unfold oListD at hf
  split at hf
  · cases hf
    cases rs with | cons r1 r2 =>
    cases r2
    cases r1 with | dic h r =>
    exact ⟨_, _, rfl, ok.ex _ _ h, new_lst ok (repK_keys r) k⟩
  · cases hf
end
section
variable {X : Cx} {g : G} {E : EX} {K : Fr} {a : Expr} {pos : Pos}
theorem pd_listD {es : List Expr} {t : TA} {q : AD} {p : Pos} (hm : X.mg "list" = none) (ha : PDD X g E (a :: es) t q) (hg : Gl X "list" := by rfl) (he : starEach (a :: es) X.env = (false, eval a X.env) :: starEach es X.env := by rfl) (hpl : (backTo pos (starEach es X.env)).any (·.1) = false := by rfl) (hc : X.calm = true := by rfl) :
    PD X g E (.Call (.Name "list" p) (a :: es) [] pos) (tCB rListD t) (aCB oListD q) := pd_ct (call_list_dK hc) cs_listD bb_list hm ha hg (by decide) (by decide) he hpl
theorem psd_ownD {i : Nat} {x : Str} {px lp : Pos} (hN : X.N.Nodup) (hi : X.N[i]? = some x := by rfl) (hx : Loc X.env.scope x := by first | exact .inl rfl | exact .inr rfl) (hf : X.fn x = true ∨ X.env.scope.names.lookup x = some .local := by first | exact .inl rfl | exact .inr rfl | assumption)
    (hs : swapsWithSole [.Name x px] (.Dict [] [] lp) pos.line X.env = pure false := by rfl) (hw : swappedStores [.Name x px] (.Dict [] [] lp) X.env = pure none := by rfl) : PSD X g E (.Assign [.Name x px] (.Dict [] [] lp) pos) (tAsg tDNewK (gName i)) (asOwnD i) := ⟨ps_asg pe_dnewK (pg_name hN hi hx hf) hs hw, ss_ownD⟩
theorem psd_setD {i : Nat} {x : Str} {p sp : Pos} {j e : Expr} {te tj : TE} {α β : AE} (hu : X.A.units + 64 < cLine) (he : PD X g E e te α) (hj : PD X g E j tj β) (hn : PE X (.Name x p) (tVar i))
    (hs : swapsWith e (some (.Subscript (.Name x p) j sp)) pos.line X.env = pure false := by rfl) :
    PSD X g E (.Assign [.Subscript (.Name x p) j sp] e pos) (sDPut (tVar i) tj te) (asSetD i α β) := ⟨ps_dput (by omega) hn hj.pe he.pe hs, ss_setD he.se hj.se⟩
theorem pd_getD {i : Nat} {x : Str} {p apos cpos : Pos} {e f : Expr} {te tf : TE} {β γ : AE} (hu : X.A.units + 64 < cLine) (hn : PE X (.Name x p) (tVar i)) (he : PD X g E e te β) (hf : PD X g E f tf γ)
    (hbase : attributeBase (.Name x p) "get" X.env (eval (.Name x p) X.env) = eval (.Name x p) X.env := by rfl)
    (hfew : ((backTo cpos (starEach [e, f] X.env)).all (fun x => !x.1) && (backToKw cpos (keywordEach [] X.env)).all (fun x => x.1.isSome) && decide (([e, f] : List Expr).length + ([] : List Keyword).length + (if ([] : List Keyword).isEmpty then 0 else 1) < 30)) = true := by rfl)
    (hline : (apos.endLine == cpos.line) = true := by rfl) (ht : backTo cpos (starEach [e, f] X.env) = [(false, eval e X.env), (false, eval f X.env)] := by rfl) :
    PD X g E (.Call (.Attribute (.Name x p) "get" apos) [e, f] [] cpos) (tDGet2 (tVar i) te tf) (aGetD i β γ) := ⟨pe_dget2 (by omega) hn he.pe hf.pe ⟨hbase, hfew, hline, ht⟩, se_getD he.se hf.se⟩
end
/-! how they are reckoned -/
def setDB (i : Nat) (d : D) (j : D) (ρ : List Sl) (s : Sl) : SRes := match j, s with
  | .int k, .own (.dict es) => if es.length ≤ 10000 then .nx (ρ.set i (.own (.dict (dPut es k d)))) else .bad
  | _, _ => .bad
def kSetD2 (i : Nat) (d : D) (j : D) (ρ : List Sl) : SRes := setDB i d j ρ (sl ρ i)
def kSetD1 (i : Nat) (b : AE) (d : D) (ρ : List Sl) (s : Sl) : SRes := match s with | .own (.dict _) => (b ρ).thn (kSetD2 i d) | _ => .bad
def kSetD (i : Nat) (b : AE) (d : D) (ρ : List Sl) : SRes := kSetD1 i b d ρ (sl ρ i)
theorem e_setD {i : Nat} {a b : AE} {ρ : List Sl} : asSetD i a b ρ = (a ρ).thn (kSetD i b) := by
  unfold asSetD
  congr 1
theorem setDB_le {es : List (D × D)} {i : Nat} {k : Int} {d : D} {ρ : List Sl} (h : es.length ≤ 10000) : setDB i d (.int k) ρ (.own (.dict es)) = .nx (ρ.set i (.own (.dict (dPut es k d)))) := if_pos h
def getDB (j z : D) (ρ : List Sl) (s : Sl) : Res D := match j, s with
  | .int k, .own (.dict es) => .ok ((dGet es k).getD z) ρ
  | _, _ => .bad
def kGetD2 (i : Nat) (j z : D) (ρ : List Sl) : Res D := getDB j z ρ (sl ρ i)
def kGetD1 (i : Nat) (c : AE) (j : D) (ρ : List Sl) : Res D := (c ρ).bind (kGetD2 i j)
def sGetD (i : Nat) (b c : AE) (ρ : List Sl) (s : Sl) : Res D := match s with | .own (.dict _) => (b ρ).bind (kGetD1 i c) | _ => .bad
theorem e_getD {i : Nat} {b c : AE} {ρ : List Sl} : aGetD i b c ρ = sGetD i b c ρ (sl ρ i) := by
  unfold aGetD sGetD
  split
  · congr 1
  · rfl
/-- a dict of ints by its keys in their order and what they hold -/
def diD (l : List (Int × D)) : List (D × D) := l.map fun p => (.int p.1, p.2)
def putI (l : List (Int × D)) (k : Int) (d : D) : List (Int × D) := if k ∈ l.map (·.1) then l.map (fun p => if p.1 = k then (p.1, d) else p) else l ++ [(k, d)]
def getI (l : List (Int × D)) (k : Int) : Option D := (l.find? fun p => decide (p.1 = k)).map (·.2)
theorem dPut_diD (l : List (Int × D)) (k : Int) (d : D) : dPut (diD l) k d = diD (putI l k d) := by
  unfold dPut putI diD
  have e : ((l.map fun p => ((PyData.int p.1, p.2) : D × D)).any (dIs k)) = true ↔ k ∈ l.map (·.1) := by
    rw [List.any_map, List.any_eq_true, List.mem_map]
    constructor
    · rintro ⟨p, h1, h2⟩
      exact ⟨p, h1, of_decide_eq_true h2⟩
    · rintro ⟨p, h1, h2⟩
      exact ⟨p, h1, decide_eq_true h2⟩
  by_cases c : k ∈ l.map (·.1)
  · rw [if_pos (e.mpr c), if_pos c, List.map_map, List.map_map]
    refine List.map_congr_left fun p _ => ?_
    show (if decide (p.1 = k) = true then ((PyData.int p.1, d) : D × D) else (.int p.1, p.2)) = ((PyData.int (if p.1 = k then (p.1, d) else p).1, (if p.1 = k then (p.1, d) else p).2) : D × D)
    by_cases c2 : p.1 = k
    · rw [if_pos (decide_eq_true c2), if_pos c2]
    · rw [if_neg (by simpa using c2), if_neg c2]
  · rw [if_neg (fun q => c (e.mp q)), if_neg c, List.map_append]; rfl
theorem dGet_diD (l : List (Int × D)) (k : Int) : dGet (diD l) k = getI l k := by
  unfold dGet getI diD
  rw [List.find?_map, Option.map_map]; rfl
end DL

/-! x = {c: z}; (x or [c])[-1], x a list that is being built -/
namespace DL
open PySem PySem.Spec PyProof.Rows L2
def asOwnD1 (i : Nat) (c z : Int) : AS := fun ρ => match putS ρ i (.own (.dict [(.int c, .int z)])) with | some ρ2 => .nx ρ2 | none => .bad
def aOrLast (i : Nat) (c : Int) : AE := fun ρ => match sl ρ i with
  | .own (.list ds) => .ok ((ds.getLast?).getD (.int c)) ρ
  | _ => .bad
section
variable {g : G} {E : EX}
theorem ss_ownD1 {i : Nat} {c z : Int} : SS g E (tAsg (tDisp [(tC (.int c), tC (.int z))]) (gName i)) (asOwnD1 i c z) := fun s D ok h => by
  unfold asOwnD1 at h
  split at h
  · rename_i e
    obtain ⟨h1, h2, rfl⟩ := putS_some e
    intro p hp
    refine ⟨upd_same, [(Sum.inl c, .int z)], rfl, by show 1 ≤ 15; decide, ?_⟩
    have e2 : upd (upd s.H p (.dK [])) p (.dK (mergeK [] [(Sum.inl c, V.int z)])) = upd s.H p (.dK [(Sum.inl c, V.int z)]) := by
      funext b
      by_cases q : b = p
      · subst q; rw [upd_same, upd_same]; rfl
      · rw [upd_ne q, upd_ne q, upd_ne q]
    rw [e2]
    obtain ⟨ok2, go2⟩ := S.Ok.newOwn (p := p) (o := .dK [(Sum.inl c, V.int z)]) (x' := .own (.dict [(.int c, .int z)])) ok hp h1 h2 ⟨p, _, rfl, rfl, upd_same, .cons (k := Sum.inl c) (.int z) .nil⟩
    exact h _ rfl ok2 go2
  · exact h.elim
abbrev tOrLast (K : Fr) (i : Nat) (c : Int) : TE := tOp (rIx K) (tOrT K (tVar i) (tLst (tCons (tC (.int c)) tNil))) (tUn (rU fun i => .int (-i)) (tC (.int 1)))
theorem se_orLast {i : Nat} {c : Int} : SE g E (tOrLast g.K i c) (aOrLast i c) := fun s Q ok h => by
  unfold aOrLast at h
  split at h
  · rename_i ds e0
    obtain ⟨p, vs, hv, hp, hr⟩ := own_list ok e0
    refine ⟨.ref p, hv, !vs.isEmpty, .inl ⟨vs, sqL_of hp, rfl⟩, ?_⟩
    have hh := Aft.here (s := s) ok h
    rcases List.eq_nil_or_concat vs with rfl | ⟨w, v, rfl⟩
    · cases hr
      show (if (false : Bool) = true then _ else _)
      rw [if_neg Bool.false_ne_true]
      refine ⟨by show (1 : Nat) ≤ sizeLine; decide, fun p2 hp2 => ⟨1, rfl, ?_⟩⟩
      obtain ⟨ok1, go1⟩ := S.Ok.junk (o := .lst [V.int c]) ok hp2
      refine .inl ⟨p2, [V.int c], -1, V.int c, rfl, rfl, sqL_of upd_same, rfl, ?_⟩
      exact (h s.F (upd s.H p2 (.lst [V.int c])) s.W ok1 go1) _ (.int c)
    · rw [List.concat_eq_append] at hp hr ⊢
      have hne : (!(w ++ [v]).isEmpty) = true := by cases w <;> rfl
      rw [hne, if_pos rfl]
      have hl := hr.length
      rcases List.eq_nil_or_concat ds with rfl | ⟨es, d, rfl⟩
      · rw [List.length_append] at hl; simp at hl
      · rw [List.concat_eq_append] at hr hh
        rw [List.getLast?_concat] at hh
        obtain ⟨v', h1, h2⟩ := hr.get (i := es.length) (d := d) (by rw [List.getElem?_append_right (Nat.le_refl _), Nat.sub_self]; rfl)
        have hl2 : w.length = es.length := by
          rw [List.concat_eq_append, List.length_append, List.length_append] at hl
          simpa using hl
        have ev : v' = v := by
          rw [← hl2, List.getElem?_append_right (Nat.le_refl _), Nat.sub_self] at h1
          exact (Option.some.inj h1).symm
        subst ev
        exact ⟨1, rfl, .inl ⟨p, w ++ [v'], -1, v', rfl, rfl, sqL_of hp, atI_last _ _, hh v' h2⟩⟩
  · exact h.elim
/-- d.get(j, z), d a dict -/
def aGet (a b c : AE) : AE := fun ρ => (a ρ).bind fun d ρ1 => match d with
  | .dict es => (b ρ1).bind fun j ρ2 => (c ρ2).bind fun z ρ3 => match j with
    | .int k => .ok ((dGet es k).getD z) ρ3
    | _ => .bad
  | _ => .bad
theorem se_get {td tj tz : TE} {a b c : AE} (ha : SE g E td a) (hb : SE g E tj b) (hc : SE g E tz c) : SE g E (tDGet2 td tj tz) (aGet a b c) := fun s Q ok h =>
  ha s _ ok ((Aft.bind h).mono fun d F0 H0 W0 ρ0 ok0 go0 h0 v0 r0 => by
    cases d with
    | dict es =>
      cases r0 with
      | dic hF hr =>
        rename_i p kvs
        refine ⟨p, rfl, .inl ⟨kvs, .inl (ok0.ex _ _ hF)⟩, hb ⟨F0, H0, W0, s.σ, ρ0⟩ _ ok0 ((Aft.bind h0).mono fun j F1 H1 W1 ρ1 ok1 go1 h1 v1 r1 => hc ⟨F1, H1, W1, s.σ, ρ1⟩ _ ok1 ((Aft.bind h1).mono fun z F2 H2 W2 ρ2 ok2 go2 h2 v2 r2 => ?_))⟩
        cases j with
        | int k =>
          cases r1
          have hF2 : H2 p = some (.dK kvs) := ok2.ex _ _ (go2.f _ _ (go1.f _ _ hF))
          refine ⟨_, DGet.k (k := Sum.inl k) hF2, ?_⟩
          have hh := Aft.here (s := ⟨F2, H2, W2, s.σ, ρ2⟩) ok2 h2
          rcases repK_get (k := k) hr with ⟨v, d, q1, q2, q3⟩ | ⟨q1, q2⟩
          · rw [q1]
            rw [q2] at hh
            exact hh v (q3.mono (go1.f.trans go2.f))
          · rw [q1]
            rw [q2] at hh
            exact hh v2 r2
        | _ => exact h2.elim
    | _ => exact h0.elim)
end
section
variable {X : Cx} {g : G} {E : EX} {K : Fr} {pos : Pos}
theorem psd_ownD1 {i : Nat} {c z : Int} {jc jz : Nat} {x : Str} {px lp pc pz : Pos} (hN : X.N.Nodup) (hi : X.N[i]? = some x := by rfl) (hx : Loc X.env.scope x := by first | exact .inl rfl | exact .inr rfl) (hf : X.fn x = true ∨ X.env.scope.names.lookup x = some .local := by first | exact .inl rfl | exact .inr rfl | assumption)
    (hs : swapsWithSole [.Name x px] (.Dict [some (.Constant (.int c) jc pc)] [.Constant (.int z) jz pz] lp) pos.line X.env = pure false := by rfl) (hw : swappedStores [.Name x px] (.Dict [some (.Constant (.int c) jc pc)] [.Constant (.int z) jz pz] lp) X.env = pure none := by rfl) :
    PSD X g E (.Assign [.Name x px] (.Dict [some (.Constant (.int c) jc pc)] [.Constant (.int z) jz pz] lp) pos) (tAsg (tDisp [(tC (.int c), tC (.int z))]) (gName i)) (asOwnD1 i c z) := ⟨ps_asg (pe_disp (pps_cons pe_int pe_int pps_nil) rfl rfl (by simp) (by simp)) (pg_name hN hi hx hf) hs hw, ss_ownD1⟩
theorem pd_get {o e f : Expr} {apos cpos : Pos} {to te tf : TE} {α β γ : AE} (hu : X.A.units + 64 < cLine) (hn : PD X g E o to α) (he : PD X g E e te β) (hf : PD X g E f tf γ)
    (hbase : attributeBase o "get" X.env (eval o X.env) = eval o X.env := by rfl)
    (hfew : ((backTo cpos (starEach [e, f] X.env)).all (fun x => !x.1) && (backToKw cpos (keywordEach [] X.env)).all (fun x => x.1.isSome) && decide (([e, f] : List Expr).length + ([] : List Keyword).length + (if ([] : List Keyword).isEmpty then 0 else 1) < 30)) = true := by rfl)
    (hline : (apos.endLine == cpos.line) = true := by rfl) (ht : backTo cpos (starEach [e, f] X.env) = [(false, eval e X.env), (false, eval f X.env)] := by rfl) :
    PD X g E (.Call (.Attribute o "get" apos) [e, f] [] cpos) (tDGet2 to te tf) (aGet α β γ) := ⟨pe_dget2 (by omega) hn.pe he.pe hf.pe ⟨hbase, hfew, hline, ht⟩, se_get hn.se he.se hf.se⟩
theorem pd_orLast {i : Nat} {c : Int} {x : Str} {p p2 p3 p4 p5 p6 : Pos} {jc j1 : Nat} (hn : PE X (.Name x p) (tVar i)) (hs : PlainIx (.UnaryOp .USub (.Constant (.int 1) j1 p5) p6) := by exact fun _ _ => rfl) (hK : X.K = K := by rfl) :
    PD X g E (.Subscript (.BoolOp .Or [.Name x p, .List [.Constant (.int c) jc p2] p3] p4) (.UnaryOp .USub (.Constant (.int 1) j1 p5) p6) pos) (tOrLast K i c) (aOrLast i c) := by
  subst hK
  exact ⟨pe_ix ix_seq (pe_orT hn (pe_one (pe_lst (pa_cons pe_int pa_nil)))) (pe_un un_neg pe_int) hs, se_orLast (g := g.at X.K)⟩
end
def kGet3 (es : List (D × D)) (j z : D) (ρ : List Sl) : Res D := match j with
  | .int k => .ok ((dGet es k).getD z) ρ
  | _ => .bad
def kGet2 (es : List (D × D)) (c : AE) (j : D) (ρ : List Sl) : Res D := (c ρ).bind (kGet3 es j)
def kGet1 (b c : AE) (d : D) (ρ : List Sl) : Res D := match d with
  | .dict es => (b ρ).bind (kGet2 es c)
  | _ => .bad
theorem e_get {a b c : AE} {ρ : List Sl} : aGet a b c ρ = (a ρ).bind (kGet1 b c) := by
  unfold aGet
  congr 1
def orLB (c : Int) (s : Sl) (ρ : List Sl) : Res D := match s with
  | .own (.list ds) => .ok ((ds.getLast?).getD (.int c)) ρ
  | _ => .bad
theorem e_orLast {i : Nat} {c : Int} {ρ : List Sl} : aOrLast i c ρ = orLB c (sl ρ i) ρ := rfl
theorem e_ownD1 {i : Nat} {c z : Int} {ρ : List Sl} : asOwnD1 i c z ρ = nxO (putS ρ i (.own (.dict [(.int c, .int z)]))) := rfl
end DL

/-! for x in (f, g, ..): defs, one after another; x(..) -/
namespace DL
open PySem PySem.Spec PyProof.Rows L2
def tCallV (i : Nat) (C : Addr → Sp → Prop) (E : EX) (t : TA) : TE := fun σ H Q => ∃ f sp, σ[i]? = some (some (.ref f)) ∧ C f sp ∧ tCallS sp E t σ H Q
theorem pe_callV {X : Cx} {i : Nat} {x : Str} {p pos : Pos} {e : Expr} {es : List Expr} {t : TA} {E : EX} (hN : X.N[i]? = some x) (hv : Vis X.env.scope x) (hx : ∀ σ, PassesAt (L2.CX X.prog X.w) X σ (E σ)) (ha : PA X (e :: es) t)
    (hdb : (x == ("__debug__" : Str)) = false := by decide) (hcd : (x == ("__classdict__" : Str)) = false := by decide)
    (he : starEach (e :: es) X.env = (false, eval e X.env) :: starEach es X.env := by rfl) (hpl : (backTo pos (starEach es X.env)).any (·.1) = false := by rfl) : PE X (.Call (.Name x p) (e :: es) [] pos) (tCallV i (Callee X) E t) := by
  refine ⟨fun pins s σ H Q I h => ?_⟩
  obtain ⟨f, sp, hs, ⟨k, fd, ps, F, hr, hk, hb⟩, q⟩ := h
  refine wpAny_Call_Name_kw (thn ((pe_var (pos := p) hN hv hdb hcd).run pins s σ H (fun v H1 => v = .ref f ∧ H1 = H) I ⟨.ref f, hs, rfl, rfl⟩) fun u s1 ⟨v, H1, I1, r1, q1⟩ => ?_)
  obtain ⟨rfl, rfl⟩ := q1
  cases r1
  exact PySem.W.callWith_K (h₀ := X.base) I1.ok.mod.kin hk (thn (ha.run pos pins s1 σ _ _ I1 q) fun us s2 ⟨vs, H2, I2, r, q2⟩ => ⟨I2.kIn, run_fnS F hr hb (hx σ) I2 r q2⟩) he hpl
def aCallV (i : Nat) (fs : List Fn) (q : AA) : AE := fun ρ => match sl ρ i with
  | .pin (.fnc k) => (match fs[k]? with | some f => aCall f q ρ | none => .bad)
  | _ => .bad
theorem se_callV {g : G} {E : EX} {i n : Nat} {fs : List Fn} {C : Addr → Sp → Prop} {ta : TA} {a : AA} (hC : ∀ (k : Nat) (f : Fn), fs[k]? = some f → ∃ b, g.cls (100 + k) = .ref b ∧ C b (spG g n f)) (ha : SA g E ta a) (hn : ∀ s : S, ∀ xs ρ, a s.ρ = .ok xs ρ → xs.length = n) : SE g E (tCallV i C E ta) (aCallV i fs a) := fun s Q ok h => by
  unfold aCallV at h
  split at h
  · rename_i k e0
    split at h
    · rename_i f ef
      obtain ⟨v, hv, P, hS⟩ := pin_at ok e0
      obtain ⟨b, eb, ec⟩ := hS
      cases eb
      obtain ⟨b', e1, hc⟩ := hC k f ef
      rw [e1] at ec
      cases ec
      exact ⟨_, _, hv, hc, se_call ha hn s Q ok h⟩
    · exact h.elim
  · exact h.elim
def forFGo (i : Nat) (b : AS) : Nat → Nat → List Sl → SRes
  | 0, _, ρ => .nx ρ
  | m + 1, k, ρ => match putS ρ i (.pin (.fnc k)) with
    | none => .bad
    | some ρ1 => match b ρ1 with
      | .nx ρ2 => forFGo i b m (k + 1) (ρ2.set i .none)
      | .ct ρ2 => forFGo i b m (k + 1) (ρ2.set i .none)
      | .bk _ => .bad
      | .rt d ρ2 => .rt d ρ2
      | .exc e ρ2 => .exc e ρ2
      | .bad => .bad
def asForF (i n : Nat) (b : AS) : AS := fun ρ => forFGo i b n 0 ρ
theorem S.Ok.putF {g : G} {s : S} {i k : Nat} {a : Addr} (ok : s.Ok g) (ha : g.cls (100 + k) = .ref a) (hi : i < s.ρ.length) (hp : noPin (DL.sl s.ρ i) = true) :
    (S.mk s.F s.H s.W (s.σ.set i (some (.ref a))) (s.ρ.set i (.pin (.fnc k)))).Ok g ∧ Go s ⟨s.F, s.H, s.W, s.σ.set i (some (.ref a)), s.ρ.set i (.pin (.fnc k))⟩ := by
  have hi' : i < s.σ.length := by rw [ok.len]; exact hi
  refine ⟨⟨ok.ex, ok.fw, by simp [ok.len], ?_⟩, ⟨.refl _, fun _ _ h _ => h, fun _ _ h _ => h, fun _ h => .inl h, fun j m h => ?_⟩⟩
  · obtain ⟨O, h1, h2, h3⟩ := ok.sl
    refine ⟨O, h1, h2, fun j x hx => ?_⟩
    have hx : (s.ρ.set i (.pin (.fnc k)))[j]? = some x := hx
    show SlOk g s.F s.H (O j) ((s.σ.set i (some (.ref a)))[j]?.join) x
    by_cases e : i = j
    · subst e
      rw [List.getElem?_set_self hi] at hx
      cases hx
      rw [List.getElem?_set_self hi']
      exact ⟨a, rfl, ha⟩
    · rw [List.getElem?_set_ne e] at hx ⊢
      exact h3 j x hx
  · have e : i ≠ j := fun e => by
      subst e
      rw [sl_of h] at hp
      cases hp
    show (s.σ.set i _)[j]? = s.σ[j]? ∧ ∃ m', (s.ρ.set i (.pin (.fnc k)))[j]? = some (.pin m')
    rw [List.getElem?_set_ne e, List.getElem?_set_ne e]
    exact ⟨rfl, m, h⟩
/-- the name's slot forgotten -/
theorem S.Ok.lose {g : G} {s : S} {i : Nat} (ok : s.Ok g) : (S.mk s.F s.H s.W s.σ (s.ρ.set i .none)).Ok g := by
  refine ⟨ok.ex, ok.fw, by simp [ok.len], ?_⟩
  obtain ⟨O, h1, h2, h3⟩ := ok.sl
  refine ⟨O, h1, h2, fun j x hx => ?_⟩
  have hx : (s.ρ.set i .none)[j]? = some x := hx
  by_cases e : i = j
  · subst e
    by_cases hi : i < s.ρ.length
    · rw [List.getElem?_set_self hi] at hx
      cases hx; trivial
    · rw [List.getElem?_eq_none (by rw [List.length_set]; omega)] at hx; cases hx
  · rw [List.getElem?_set_ne e] at hx
    exact h3 j x hx
theorem Go.lose {s t : S} {i : Nat} (go : Go s t) (hp : noPin (DL.sl s.ρ i) = true) : Go s ⟨t.F, t.H, t.W, t.σ, t.ρ.set i .none⟩ :=
  ⟨go.f, go.keep, go.fr, go.own, fun j m h => by
    have e : i ≠ j := fun e => by
      subst e
      rw [sl_of h] at hp
      cases hp
    obtain ⟨q1, m', q2⟩ := go.pk j m h
    refine ⟨q1, m', ?_⟩
    show (t.ρ.set i .none)[j]? = _
    rw [List.getElem?_set_ne e]; exact q2⟩
theorem ss_forF {g : G} {E : EX} {i : Nat} {as : List Addr} {ta : TA} {tb : TS} {b : AS} (hta : ∀ (σ : L2.St) (H : Hp) (Q : List V → Hp → Prop), Q (as.map V.ref) H → ta σ H Q) (hcl : ∀ (k : Nat) (a : Addr), as[k]? = some a → g.cls (100 + k) = .ref a) (hsz : as.length ≤ 1000) (hb : SS g E tb b) :
    SS g E (tFor (iTup g.K (tTup ta)) (gName i) tb) (asForF i as.length b) := fun s D ok h => by
  refine hta _ _ _ ⟨by rw [List.length_map]; exact sz_of hsz, fun p hp => ?_⟩
  have hq : upd s.H p (.tup (as.map V.ref)) p = some (.tup (as.map V.ref)) := upd_same
  obtain ⟨ok1, go1⟩ := S.Ok.junk (o := .tup (as.map V.ref)) ok hp
  have nW : ¬ s.W p := fun z => (ok.fw p z).2 hp
  refine ⟨p, rfl, ⟨_, sqT_of hq⟩, ?_⟩
  refine ⟨fun k m σ H => m = as.length - k ∧ k ≤ as.length ∧ ∃ F W ρ, (S.mk F H W σ ρ).Ok g ∧ ¬ W p ∧ H p = some (.tup (as.map V.ref)) ∧ AftS g E ⟨F, H, W, σ, ρ⟩ (forFGo i b (as.length - k) k ρ) (KE.of g D), ⟨_, rfl, Nat.zero_le _, s.F, s.W, s.ρ, ok1, nW, hq, AftS.from go1 h⟩, ?_⟩
  rintro k m σ H ⟨rfl, hk, F, W, ρ, okt, nw, hH, ha⟩
  by_cases hlt : k < as.length
  · have hak : (as.map V.ref)[k]? = some (V.ref as[k]) := by rw [List.getElem?_map, List.getElem?_eq_getElem hlt]; rfl
    refine .inr ⟨⟨_, _, sqT_of hH, hak⟩, _, fun σ' H' q => q, fun x H2 hy => ?_⟩
    obtain ⟨rfl, hy⟩ := hy
    have hx : x = V.ref as[k] := by
      have := hy _ (sqT_of hH)
      rw [hak] at this
      exact (Option.some.inj this).symm
    subst hx
    rw [show as.length - k = (as.length - (k + 1)) + 1 by omega] at ha
    unfold forFGo at ha
    split at ha
    · exact ha.elim
    · rename_i ρ1 e1
      obtain ⟨h1, h2, rfl⟩ := putS_some e1
      obtain ⟨ok2, go2⟩ := S.Ok.putF (s := ⟨F, H2, W, σ, ρ⟩) (k := k) okt (hcl k _ (List.getElem?_eq_getElem hlt)) h1 h2
      refine hb ⟨F, H2, W, _, _⟩ _ ok2 ?_
      have next : ∀ t : S, t.Ok g → Go ⟨F, H2, W, σ.set i (some (V.ref as[k])), ρ.set i (.pin (.fnc k))⟩ t → AftS g E ⟨F, H2, W, σ, ρ⟩ (forFGo i b (as.length - (k + 1)) (k + 1) (t.ρ.set i .none)) (KE.of g D) →
          ∃ m', m' < as.length - k ∧ m' = as.length - (k + 1) ∧ k + 1 ≤ as.length ∧ ∃ F W ρ, (S.mk F t.H W t.σ ρ).Ok g ∧ ¬ W p ∧ t.H p = some (.tup (as.map V.ref)) ∧ AftS g E ⟨F, t.H, W, t.σ, ρ⟩ (forFGo i b (as.length - (k + 1)) (k + 1) ρ) (KE.of g D) := fun t okt' got h4 => by
        have gos := go2.trans got
        refine ⟨_, by omega, rfl, by omega, t.F, t.W, _, S.Ok.lose (i := i) okt', fun z => ?_, gos.keep p _ hH nw, AftS.from (Go.lose gos h2) h4⟩
        rcases gos.own p z with z | z
        · exact nw z
        · have z : H2 p = none := z
          rw [hH] at z; cases z
      show AftS g E _ (b (ρ.set i (.pin (.fnc k)))) _
      cases e : b (ρ.set i (.pin (.fnc k))) with
      | nx ρ4 =>
        rw [e] at ha
        intro t et okt' got
        subst et
        exact next t okt' got ha
      | ct ρ4 =>
        rw [e] at ha
        intro t et okt' got
        subst et
        exact next t okt' got ha
      | bk ρ4 => rw [e] at ha; exact ha.elim
      | rt d ρ4 => rw [e] at ha; exact AftS.from go2 ha
      | exc x ρ4 => rw [e] at ha; exact AftS.from go2 ha
      | bad => rw [e] at ha; exact ha.elim
  · rw [show as.length - k = 0 by omega] at ha
    exact .inl ⟨⟨_, sqT_of hH, by rw [List.length_map]; omega⟩, ha ⟨F, H, W, σ, ρ⟩ rfl okt (Go.refl _)⟩
structure PFD (X : Cx) (g : G) (n k0 : Nat) (es : List Expr) (fs : List Fn) : Prop where
  ex : ∃ (ta : TA) (as : List Addr), PA X es ta ∧ (∀ (σ : L2.St) (H : Hp) (Q : List V → Hp → Prop), Q (as.map V.ref) H → ta σ H Q) ∧ as.length = fs.length ∧ ∀ (j : Nat) (f : Fn), fs[j]? = some f → ∃ a, as[j]? = some a ∧ g.cls (100 + (k0 + j)) = .ref a ∧ Callee X a (spG (g.at X.K) n f)
section
variable {X : Cx} {g : G} {E : EX} {n k0 : Nat}
theorem pfd_nil : PFD X g n k0 [] [] := ⟨tNil, [], pa_nil, fun σ H Q h => h, rfl, fun j f h => by simp at h⟩
theorem pfd_cons {k j : Nat} {x : Str} {f : Fn} {es : List Expr} {fs : List Fn} {p : Pos} {b : Addr} (c : Cl X.prog X.w X.K X.mg X.base (g.at X.K) k n x f) (hm : X.mg x = some (.ref b)) (hr : Room j X.A) (h : PFD X g n (k0 + 1) es fs) (hb : g.cls (100 + k0) = .ref b := by rfl) (hk : k ≤ j := by decide) (hg : Gl X x := by rfl) (hd : (x == ("__debug__" : Str)) = false := by decide)
    (hs : starEach (.Name x p :: es) X.env = (false, eval (.Name x p) X.env) :: starEach es X.env := by rfl) : PFD X g n k0 (.Name x p :: es) (f :: fs) := by
  obtain ⟨fa, fd, ps, h1, h2, h3, h4⟩ := c.ex
  obtain ⟨ta, as, q1, q2, q3, q4⟩ := h.ex
  have e : fa = b := by
    rw [hm] at h2
    cases h2; rfl
  subst e
  refine ⟨tCons (tC (.ref fa)) ta, fa :: as, pa_cons (pe_glob hg h2 (v := .ref fa) rfl hd) q1 hs, fun σ H Q h => q2 σ H _ h, congrArg (· + 1) q3, fun i f' e => ?_⟩
  cases i with
  | zero =>
    have e : f = f' := by simpa using e
    subst e
    exact ⟨fa, rfl, hb, k, fd, ps, h1, hr.mono hk, h3, h4⟩
  | succ i =>
    obtain ⟨a, a1, a2, a3⟩ := q4 i f' (by simpa using e)
    exact ⟨a, by simpa using a1, by rw [show k0 + (i + 1) = k0 + 1 + i by omega]; exact a2, a3⟩
theorem pd_callV {i : Nat} {fes : List Expr} {fs : List Fn} {x : Str} {p pos : Pos} {e : Expr} {es : List Expr} {t : TA} {q : AA} (hm : PFD X g n 0 fes fs) (hx : ∀ σ, PassesAt (L2.CX X.prog X.w) X σ (E σ)) (ha : PAD X g E (e :: es) t q n) (hN : X.N[i]? = some x := by rfl) (hv : Vis X.env.scope x := by first | exact Or.inl rfl | exact Or.inr (Or.inl rfl) | exact Or.inr (Or.inr rfl))
    (hdb : (x == ("__debug__" : Str)) = false := by decide) (hcd : (x == ("__classdict__" : Str)) = false := by decide)
    (he : starEach (e :: es) X.env = (false, eval e X.env) :: starEach es X.env := by rfl) (hpl : (backTo pos (starEach es X.env)).any (·.1) = false := by rfl) : PD X g E (.Call (.Name x p) (e :: es) [] pos) (tCallV i (Callee X) E t) (aCallV i fs q) := by
  obtain ⟨ta, as, q1, q2, q3, q4⟩ := hm.ex
  refine ⟨pe_callV hN hv hx ha.pa hdb hcd he hpl, se_callV (g := g.at X.K) (n := n) (fun k f e => ?_) ha.sa (fun s xs ρ => ha.len _ _ _)⟩
  obtain ⟨a, a1, a2, a3⟩ := q4 k f e
  rw [Nat.zero_add] at a2
  exact ⟨a, a2, a3⟩
theorem psd_sem {st : Stmt} {a : AS} (h : ∃ t, PSD X g E st t a) : PSD X g E st (semS (g.at X.K) E a) a := by
  obtain ⟨t, q⟩ := h
  refine ⟨⟨fun pins s σ H D I h => ?_⟩, fun s D ok h => ⟨s.F, s.W, s.ρ, ok, h⟩⟩
  obtain ⟨F, W, ρ, ok, ha⟩ := h
  exact q.ps.run pins s σ H D I (q.ss ⟨F, H, W, σ, ρ⟩ D ok ha)
theorem psd_forF {i : Nat} {fes : List Expr} {fs : List Fn} {tg : Expr} {body : List Stmt} {t : TS} {a : AS} {tk : Nat} {lp pos : Pos} (hp : PassesOwn (model X.prog X.w) X.A X.env X.xe) (hm : PFD X g n 0 fes fs) (hg : PG X tg (gName i)) (hb : PSsD X g E body t a) (hc : X.calm = true := by rfl) (hsz : fs.length ≤ 1000 := by decide)
    (hs : ∀ x, foldedSetIterable (.Tuple fes tk lp) X.env x = pure x := by intro _; rfl) : PSD X g E (.For tg (.Tuple fes tk lp) body [] pos) (semS (g.at X.K) E (asForF i fs.length a)) (asForF i fs.length a) := by
  obtain ⟨ta, as, q1, q2, q3, q4⟩ := hm.ex
  refine psd_sem ⟨_, ps_for hp hc (pi_tup (pe_tup q1)) hg hb.ps hs, ?_⟩
  rw [← q3]
  refine ss_forF (g := g.at X.K) q2 (fun k a e => ?_) (by omega) hb.ss
  have hk : k < fs.length := by rw [← q3]; exact (List.getElem?_eq_some_iff.mp e).1
  obtain ⟨b, b1, b2, b3⟩ := q4 k fs[k] (List.getElem?_eq_getElem hk)
  rw [b1] at e
  cases e
  rw [Nat.zero_add] at b2
  exact b2
end
def callVB (fs : List Fn) (q : AA) (ρ : List Sl) (s : Sl) : Res D := match s with
  | .pin (.fnc k) => (match fs[k]? with | some f => aCall f q ρ | none => .bad)
  | _ => .bad
theorem e_callV {i : Nat} {fs : List Fn} {q : AA} {ρ : List Sl} : aCallV i fs q ρ = callVB fs q ρ (sl ρ i) := rfl
theorem callV_0 {f : Fn} {fs : List Fn} {q : AA} {ρ : List Sl} : callVB (f :: fs) q ρ (.pin (.fnc 0)) = aCall f q ρ := rfl
theorem callV_1 {f f' : Fn} {fs : List Fn} {q : AA} {ρ : List Sl} : callVB (f :: f' :: fs) q ρ (.pin (.fnc 1)) = aCall f' q ρ := rfl
theorem callV_2 {f f' f2 : Fn} {fs : List Fn} {q : AA} {ρ : List Sl} : callVB (f :: f' :: f2 :: fs) q ρ (.pin (.fnc 2)) = aCall f2 q ρ := rfl
def SRes.loopF (r : SRes) (i : Nat) (k : List Sl → SRes) : SRes := match r with
  | .nx ρ => k (ρ.set i .none)
  | .ct ρ => k (ρ.set i .none)
  | .bk _ => .bad
  | .rt d ρ => .rt d ρ
  | .exc e ρ => .exc e ρ
  | .bad => .bad
def kF2 (i : Nat) (b : AS) (ρ : List Sl) : SRes := (runO (putS ρ i (.pin (.fnc 2))) b).loopF i .nx
def kF1 (i : Nat) (b : AS) (ρ : List Sl) : SRes := (runO (putS ρ i (.pin (.fnc 1))) b).loopF i (kF2 i b)
theorem forFGo_s {i m k : Nat} {b : AS} {ρ : List Sl} : forFGo i b (m + 1) k ρ = (runO (putS ρ i (.pin (.fnc k))) b).loopF i (forFGo i b m (k + 1)) := by
  show (match putS ρ i (.pin (.fnc k)) with | none => SRes.bad | some ρ1 => _) = _
  cases putS ρ i (.pin (.fnc k)) with
  | none => rfl
  | some ρ1 =>
    show (match b ρ1 with | .nx ρ2 => _ | .ct ρ2 => _ | .bk _ => SRes.bad | .rt d ρ2 => .rt d ρ2 | .exc e ρ2 => .exc e ρ2 | .bad => .bad) = (b ρ1).loopF i _
    cases b ρ1 <;> rfl
theorem e_forF3 {i : Nat} {b : AS} {ρ : List Sl} : asForF i 3 b ρ = (runO (putS ρ i (.pin (.fnc 0))) b).loopF i (kF1 i b) := by
  show forFGo i b (2 + 1) 0 ρ = _
  rw [forFGo_s]
  congr 1
  funext ρ1
  show forFGo i b (1 + 1) 1 ρ1 = _
  rw [forFGo_s]
  show _ = (runO (putS ρ1 i (.pin (.fnc 1))) b).loopF i (kF2 i b)
  congr 1
  funext ρ2
  show forFGo i b (0 + 1) 2 ρ2 = _
  rw [forFGo_s]
  show _ = (runO (putS ρ2 i (.pin (.fnc 2))) b).loopF i .nx
  congr 1
theorem loopF_nx {ρ : List Sl} {i : Nat} {k : List Sl → SRes} : (SRes.nx ρ).loopF i k = k (ρ.set i .none) := rfl
end DL

/-! Texts: str(n), int(text), split, join, strip(signs). -/
namespace DL
open PySem PySem.Spec PyProof.Rows L2
def dstrs : List D → Option (List Str)
  | [] => some []
  | .str x :: r => (dstrs r).map (x :: ·)
  | _ :: _ => none
theorem dstrs_map : ∀ ys : List Str, dstrs (ys.map .str) = some ys
  | [] => rfl
  | y :: ys => by
    show (dstrs (ys.map .str)).map (y :: ·) = _
    rw [dstrs_map ys]; rfl
theorem dstrs_eq : ∀ {ds : List D} {ys : List Str}, dstrs ds = some ys → ds = ys.map .str
  | [], ys, h => by cases h; rfl
  | .str x :: r, ys, h => by
    obtain ⟨zs, h1, rfl⟩ := Option.map_eq_some_iff.mp (show (dstrs r).map (x :: ·) = some ys from h)
    rw [dstrs_eq h1]; rfl
  | .none :: _, _, h | .bool _ :: _, _, h | .int _ :: _, _, h | .list _ :: _, _, h | .tuple _ :: _, _, h | .dict _ :: _, _, h => by cases h
theorem RepL.strs {K : Fr} {F : Hp} : ∀ {vs : List V} {ys : List Str}, RepL K F vs (ys.map .str) → vs = ys.map V.str
  | _, [], h => by cases h; rfl
  | _, y :: ys, h => by
    cases h with
    | cons h r => rw [h.str_inv, RepL.strs r]; rfl
theorem RepL.of_strs {K : Fr} {F : Hp} : ∀ (ys : List Str), RepL K F (ys.map V.str) (ys.map .str)
  | [] => .nil
  | y :: ys => .cons (.str y) (of_strs ys)
def oStrI : List D → Option D
  | [.int i] => if i.natAbs.log2 < 1920 then some (.str (toString i)) else none
  | _ => none
def oIntS : List D → Option D
  | [.str a] => if a.length ≤ 640 then (PySem.intText? a).map .int else none
  | _ => none
def oSplit : D → D → Option D
  | .str a, .str b => if (b.length == 0) = false ∧ a.length + 2 ≤ sizeLine then some (.list ((Txt.split a b).map .str)) else none
  | _, _ => none
def oJoin : D → D → Option D
  | .str a, .list ds => (dstrs ds).bind fun ys => if (ys.map (·.length)).sum + ys.length * a.length ≤ 16777216 then some (.str (Txt.join a ys)) else none
  | _, _ => none
def oStrip : D → D → Option D
  | .str a, .str b => if a.length ≤ sizeLine then some (.str (Txt.stripChars a b)) else none
  | _, _ => none
def isStr : D → Bool
  | .str _ => true
  | _ => false
def aM1 (f : D → D → Option D) (a b : AE) : AE := fun ρ => (a ρ).bind fun d1 ρ1 => if isStr d1 = true then (b ρ1).bind fun d2 ρ2 => lift (f d1 d2) ρ2 else .bad
section
variable {X : Cx} {g : G} {E : EX} {K : Fr}
theorem cs_strI : CS g (fun xs H Q => ∃ i, xs = [.int i] ∧ i.natAbs.log2 < 1920 ∧ Q (.str (toString i)) H) oStrI := CS.sc fun F H vs ds d Q e rs hf k => by
  unfold oStrI at hf
  split at hf
  · split at hf
    · cases hf
      cases rs with | cons r1 rs =>
      cases rs; cases r1
      exact ⟨_, rfl, by assumption, k _ (.str _)⟩
    · cases hf
  · cases hf
theorem cs_intS : CS g (fun xs H Q => ∃ a n, xs = [.str a] ∧ PySem.intText? a = some n ∧ a.length ≤ 640 ∧ Q (.int n) H) oIntS := CS.sc fun F H vs ds d Q e rs hf k => by
  unfold oIntS at hf
  split at hf
  · split at hf
    · obtain ⟨n, h1, rfl⟩ := Option.map_eq_some_iff.mp hf
      cases rs with | cons r1 rs =>
      cases rs; cases r1
      exact ⟨_, n, rfl, h1, by assumption, k _ (.int _)⟩
    · cases hf
  · cases hf
theorem se_m1 {r : V → List V → Hp → VK → Prop} {f : D → D → Option D} {ta tb : TE} {a b : AE} (hr : RS g (fun x y H Q => r x [y] H Q) f) (ha : SE g E ta a) (hb : SE g E tb b) : SE g E (tM1 r ta tb) (aM1 f a b) := fun s Q ok h =>
  ha s _ ok ((Aft.bind h).mono fun d1 F1 H1 W1 ρ1 ok1 go1 h1 v1 r1 => by
    cases d1 with
    | str ds =>
      refine ⟨⟨_, r1.str_inv⟩, ?_⟩
      refine hb ⟨F1, H1, W1, s.σ, ρ1⟩ _ ok1 ((Aft.bind h1).mono fun d2 F2 H2 W2 ρ2 ok2 go2 h2 v2 r2 => ?_)
      obtain ⟨d, hf, k⟩ := h2.lift
      exact hr ⟨F2, H2, W2, s.σ, ρ2⟩ v1 v2 _ d2 d Q ok2 (r1.mono go2.f) r2 hf fun v F H ok3 go3 r3 => k F H _ ok3 go3 v r3
    | _ => exact h1.elim)
theorem rs_split : RS g (fun x y H Q => ∃ a b, x = .str a ∧ [y] = [.str b] ∧ (b.length == 0) = false ∧ a.length + 2 ≤ sizeLine ∧ rNewStrs (Txt.split a b) H Q) oSplit := fun s x y d1 d2 d Q ok r1 r2 hf k => by
  unfold oSplit at hf
  split at hf
  · split at hf
    · rename_i c
      cases hf
      cases r1; cases r2
      exact ⟨_, _, rfl, rfl, c.1, c.2, new_lst ok (RepL.of_strs _) k⟩
    · cases hf
  · cases hf
theorem rs_join : RS g (fun x y H Q => ∃ a p, ∃ ys : List Str, x = .str a ∧ [y] = [.ref p] ∧ (SqL g.K H p (ys.map V.str) ∨ SqT g.K H p (ys.map V.str)) ∧
      (ys.map (·.length)).sum + ys.length * a.length ≤ 16777216 ∧ Q (.str (Txt.join a ys)) H) oJoin := fun s x y d1 d2 d Q ok r1 r2 hf k => by
  unfold oJoin at hf
  split at hf
  · rename_i a ds
    obtain ⟨ys, h1, h2⟩ := Option.bind_eq_some_iff.mp hf
    split at h2
    · rename_i c
      cases h2
      have e1 := dstrs_eq h1
      subst e1
      cases r1
      cases r2 with
      | lst h r =>
        rw [RepL.strs r] at h
        exact ⟨_, _, ys, rfl, rfl, .inl (sqL_of (ok.ex _ _ h)), c, k _ s.F s.H ok (Go.refl s) (.str _)⟩
    · cases h2
  · cases hf
theorem rs_strip : RS g (fun x y H Q => ∃ a b, x = .str a ∧ [y] = [.str b] ∧ a.length ≤ sizeLine ∧ Q (.str (Txt.stripChars a b)) H) oStrip := RS.sc fun F H x y d1 d2 d Q e r1 r2 hf k => by
  unfold oStrip at hf
  split at hf
  · split at hf
    · cases hf
      cases r1; cases r2
      exact ⟨_, _, rfl, rfl, by assumption, k _ (.str _)⟩
    · cases hf
  · cases hf
theorem pd_strI {a : Expr} {es : List Expr} {t : TA} {q : AD} {p pos : Pos} (hm : X.mg "str" = none) (ha : PDD X g E (a :: es) t q) (hg : Gl X "str" := by rfl) (he : starEach (a :: es) X.env = (false, eval a X.env) :: starEach es X.env := by rfl) (hpl : (backTo pos (starEach es X.env)).any (·.1) = false := by rfl) : PD X g E (.Call (.Name "str" p) (a :: es) [] pos) (tCB (fun xs H Q => ∃ i, xs = [.int i] ∧ i.natAbs.log2 < 1920 ∧ Q (.str (toString i)) H) t) (aCB oStrI q) :=
  pd_ct call_str_int (cs_strI (g := g.at X.K)) bb_str hm ha hg (by decide) (by decide) he hpl
theorem pd_intS {a : Expr} {es : List Expr} {t : TA} {q : AD} {p pos : Pos} (hm : X.mg "int" = none) (ha : PDD X g E (a :: es) t q) (hg : Gl X "int" := by rfl) (he : starEach (a :: es) X.env = (false, eval a X.env) :: starEach es X.env := by rfl) (hpl : (backTo pos (starEach es X.env)).any (·.1) = false := by rfl) : PD X g E (.Call (.Name "int" p) (a :: es) [] pos) (tCB (fun xs H Q => ∃ a n, xs = [.str a] ∧ PySem.intText? a = some n ∧ a.length ≤ 640 ∧ Q (.int n) H) t) (aCB oIntS q) :=
  pd_ct call_int_str (cs_intS (g := g.at X.K)) bb_int hm ha hg (by decide) (by decide) he hpl
theorem pd_split {o e : Expr} {to te : TE} {a b : AE} {apos pos : Pos} (ho : PD X g E o to a) (he : PD X g E e te b) (hs : starEach [e] X.env = [(false, eval e X.env)] := by rfl) (hbase : attributeBase o "split" X.env (eval o X.env) = eval o X.env := by rfl) (hline : (apos.endLine == pos.line) = true := by rfl) :
    PD X g E (.Call (.Attribute o "split" apos) [e] [] pos) (tM1 (fun x xs H Q => ∃ a b, x = .str a ∧ xs = [.str b] ∧ (b.length == 0) = false ∧ a.length + 2 ≤ sizeLine ∧ rNewStrs (Txt.split a b) H Q) to te) (aM1 oSplit a b) :=
  ⟨pe_split ho.pe he.pe hs hbase hline, se_m1 (g := g.at X.K) rs_split ho.se he.se⟩
theorem pd_join {o e : Expr} {to te : TE} {a b : AE} {apos pos : Pos} (ho : PD X g E o to a) (he : PD X g E e te b) (hs : starEach [e] X.env = [(false, eval e X.env)] := by rfl) (hbase : attributeBase o "join" X.env (eval o X.env) = eval o X.env := by rfl) (hline : (apos.endLine == pos.line) = true := by rfl) (hK : X.K = K := by rfl) :
    PD X g E (.Call (.Attribute o "join" apos) [e] [] pos) (tM1 (fun x xs H Q => ∃ a p, ∃ ys : List Str, x = .str a ∧ xs = [.ref p] ∧ (SqL K H p (ys.map V.str) ∨ SqT K H p (ys.map V.str)) ∧
      (ys.map (·.length)).sum + ys.length * a.length ≤ 16777216 ∧ Q (.str (Txt.join a ys)) H) to te) (aM1 oJoin a b) := by
  subst hK
  exact ⟨pe_join ho.pe he.pe hs hbase hline, se_m1 (g := g.at X.K) rs_join ho.se he.se⟩
theorem pd_stripS {o e : Expr} {to te : TE} {a b : AE} {apos pos : Pos} (ho : PD X g E o to a) (he : PD X g E e te b) (hs : starEach [e] X.env = [(false, eval e X.env)] := by rfl) (hbase : attributeBase o "strip" X.env (eval o X.env) = eval o X.env := by rfl) (hline : (apos.endLine == pos.line) = true := by rfl) :
    PD X g E (.Call (.Attribute o "strip" apos) [e] [] pos) (tM1 (fun x xs H Q => ∃ a b, x = .str a ∧ xs = [.str b] ∧ a.length ≤ sizeLine ∧ Q (.str (Txt.stripChars a b)) H) to te) (aM1 oStrip a b) :=
  ⟨pe_m1 F.slot_str_strip F.type_str_strip mt_stripChars ho.pe he.pe hs hbase hline, se_m1 (g := g.at X.K) rs_strip ho.se he.se⟩
end
def kM1 (f : D → D → Option D) (b : AE) (d1 : D) (ρ : List Sl) : Res D := match isStr d1 with | true => (b ρ).bind (kLift (f d1)) | false => .bad
theorem e_m1 {f : D → D → Option D} {a b : AE} {ρ : List Sl} : aM1 f a b ρ = (a ρ).bind (kM1 f b) := by
  unfold aM1
  congr 1; funext d1 ρ1
  unfold kM1
  cases isStr d1 <;> rfl
theorem kM1_s {f : D → D → Option D} {b : AE} {x : Str} {ρ : List Sl} : kM1 f b (.str x) ρ = (b ρ).bind (kLift (f (.str x))) := rfl
/-- texts as a list -/
def sls (ys : List Str) : D := .list (ys.map .str)
theorem oSplit_s {a b : Str} (h1 : (b.length == 0) = false) (h2 : a.length + 2 ≤ sizeLine) : oSplit (.str a) (.str b) = some (sls (Txt.split a b)) := if_pos ⟨h1, h2⟩
theorem oJoin_s {a : Str} {ys : List Str} (h : (ys.map (·.length)).sum + ys.length * a.length ≤ 16777216) : oJoin (.str a) (sls ys) = some (.str (Txt.join a ys)) := by
  show (dstrs _).bind _ = _
  rw [dstrs_map]
  exact if_pos h
end DL

/-! A call whose arguments hold no list: the list it hands back is known to nothing else. -/
namespace DL
open PySem PySem.Spec PyProof.Rows L2
mutual
def noL : PyData → Bool
  | .none => true
  | .bool _ => true
  | .int _ => true
  | .str _ => true
  | .tuple ds => noLs ds
  | .list _ => false
  | .dict _ => false
def noLs : List PyData → Bool
  | [] => true
  | d :: ds => noL d && noLs ds
end
def thin (F : Hp) : Hp := fun a => match F a with
  | some (.lst _) => none
  | some (.dK _) => none
  | o => o
theorem thin_some {F : Hp} {a : Addr} {o : HO} (h : thin F a = some o) : F a = some o := by
  unfold thin at h
  split at h
  · cases h
  · cases h
  · exact h
theorem thin_lst {F : Hp} {a : Addr} {xs : List V} (h : thin F a = some (.lst xs)) : False := by
  have h2 := thin_some h
  unfold thin at h
  rw [h2] at h
  cases h
theorem thin_keep {F : Hp} {a : Addr} {o : HO} (h : F a = some o) (h1 : ∀ xs, o ≠ .lst xs) (h2 : ∀ xs, o ≠ .dK xs) : thin F a = some o := by
  unfold thin
  split
  · rename_i e; rw [h] at e; cases e; exact absurd rfl (h1 _)
  · rename_i e; rw [h] at e; cases e; exact absurd rfl (h2 _)
  · exact h
theorem thin_sqT {K : Fr} {F : Hp} {a : Addr} {xs : List V} (h : SqT K F a xs) : SqT K (thin F) a xs := by
  rcases h with (h | ⟨o, h⟩) | h
  · exact .inl (.inl (thin_keep h (fun _ q => nomatch q) fun _ q => nomatch q))
  · exact .inl (.inr ⟨o, thin_keep h (fun _ q => nomatch q) fun _ q => nomatch q⟩)
  · exact .inr h
theorem thin_sqF {K : Fr} {F : Hp} {a : Addr} {xs : List V} (h : SqF K F a xs) : SqF K (thin F) a xs := by
  rcases h with ⟨o, h⟩ | h
  · exact .inl ⟨o, thin_keep h (fun _ q => nomatch q) fun _ q => nomatch q⟩
  · exact .inr h
mutual
theorem Rep.less {K : Fr} {F F' : Hp} (e : ∀ a xs, SqT K F a xs → SqT K F' a xs) : ∀ {v : V} {d : PyData}, Rep K F v d → noL d = true → Rep K F' v d
  | _, _, .non, _ => .non
  | _, _, .bl b, _ => .bl b
  | _, _, .int i, _ => .int i
  | _, _, .str x, _ => .str x
  | _, _, .lst h r, c => by simp [noL] at c
  | _, _, .tup h r, c => .tup (e _ _ h) (RepL.less e r (by simpa [noL] using c))
  | _, _, .dic h r, c => by simp [noL] at c
theorem RepL.less {K : Fr} {F F' : Hp} (e : ∀ a xs, SqT K F a xs → SqT K F' a xs) : ∀ {vs : List V} {ds : List PyData}, RepL K F vs ds → noLs ds = true → RepL K F' vs ds
  | _, _, .nil, _ => .nil
  | _, _, .cons h r, c => by
    simp only [noLs, Bool.and_eq_true] at c
    exact .cons (Rep.less e h c.1) (RepL.less e r c.2)
end
def argNoL : Arg → Bool
  | .inl d => noL d
  | .inr _ => true
def sameK : List Sl → List Sl → Bool
  | [], [] => true
  | .pin (.town _) :: r, .pin (.town _) :: r' => sameK r r'
  | .pin (.scr _) :: r, .pin (.scr _) :: r' => sameK r r'
  | .dat _ :: r, _ :: r' => sameK r r'
  | _, _ => false
theorem sameK_at : ∀ {a b : List Sl}, sameK a b = true → ∀ {k : Nat} {m : Mu}, a[k]? = some (.pin m) → (∃ n n', m = .town n ∧ b[k]? = some (.pin (.town n'))) ∨ ∃ n n', m = .scr n ∧ b[k]? = some (.pin (.scr n'))
  | [], [], _, k, m, h => by simp at h
  | .pin (.town n) :: r, .pin (.town n') :: r', c, 0, m, h => by
    have e : Mu.town n = m := by simpa using h
    exact .inl ⟨n, n', e.symm, rfl⟩
  | .pin (.town n) :: r, .pin (.town n') :: r', c, k + 1, m, h => sameK_at (a := r) (b := r') c (k := k) (by simpa using h)
  | .pin (.scr n) :: r, .pin (.scr n') :: r', c, 0, m, h => by
    have e : Mu.scr n = m := by simpa using h
    exact .inr ⟨n, n', e.symm, rfl⟩
  | .pin (.scr n) :: r, .pin (.scr n') :: r', c, k + 1, m, h => sameK_at (a := r) (b := r') c (k := k) (by simpa using h)
  | .dat _ :: r, _ :: r', c, 0, m, h => by simp at h
  | .dat _ :: r, _ :: r', c, k + 1, m, h => sameK_at (a := r) (b := r') c (k := k) (by simpa using h)
section
variable {g : G} {E : EX}
/-- the start of such a call and the way back; X are new lists that leave the data -/
theorem fresh_back {t : S} {vs : List V} {xs : List Arg} (ok : t.Ok g) (ha : ArgL g t vs xs) (hp : pinsOk [] xs = true) (hn : xs.all argNoL = true) (b : List Sl) (hb : sameK (xs.map (argS t.ρ)) b = true) :
    ∃ W0, (S.mk (thin t.F) t.H W0 (vs.map some) (xs.map (argS t.ρ))).Ok g ∧ (∀ a, W0 a → t.W a) ∧
    (∀ u : S, u.σ = vs.map some → u.ρ = b → u.Ok g → Go ⟨thin t.F, t.H, W0, vs.map some, xs.map (argS t.ρ)⟩ u →
      (∀ a, W0 a → u.F a = none) ∧
      ∀ X : Addr → Prop, (∀ a, X a → t.H a = none ∧ ∃ ys, u.F a = some (.lst ys)) →
      ∃ F' W', (S.mk F' u.H W' t.σ (putPins xs u.ρ t.ρ)).Ok g ∧ Go t ⟨F', u.H, W', t.σ, putPins xs u.ρ t.ρ⟩ ∧ (∀ a, X a → F' a = none ∧ ¬ W' a) ∧ ∀ a o, u.F a = some o → ¬ X a → F' a = some o) := by
  obtain ⟨O, h1, h2, h3⟩ := ok.sl
  have hl := ha.length
  -- the pinned names' kinds
  have kind : ∀ {k i : Nat}, xs[k]? = some (Sum.inr i) → ∃ v m, vs[k]? = some v ∧ t.σ[i]? = some (some v) ∧ t.ρ[i]? = some (.pin m) ∧ ((∃ n n', m = .town n ∧ b[k]? = some (.pin (.town n'))) ∨ ∃ n n', m = .scr n ∧ b[k]? = some (.pin (.scr n'))) := fun {k i} hk => by
    obtain ⟨v, hv, q1, m, q2⟩ := ha.get hk
    refine ⟨v, m, hv, q1, q2, sameK_at hb (k := k) ?_⟩
    rw [List.getElem?_map, hk]
    show some (sl t.ρ i) = _
    rw [sl_of q2]
  have town : ∀ {i n : Nat} {v : V}, t.σ[i]? = some (some v) → t.ρ[i]? = some (.pin (.town n)) → ∃ p, v = .ref p ∧ O i p ∧ t.H p = some (.lst (List.replicate n (.int 0))) := fun {i n v} q1 q2 => by
    have := h3 i _ q2
    rw [q1] at this
    obtain ⟨p, e, r⟩ := this
    cases e
    exact ⟨p, rfl, r⟩
  refine ⟨fun a => ∃ (k i n : Nat), xs[k]? = some (Sum.inr i) ∧ t.ρ[i]? = some (.pin (.town n)) ∧ vs[k]? = some (.ref a), ?_, ?_, fun u eu eb oku go => ?_⟩
  · refine ⟨fun a o h => ok.ex a o (thin_some h), fun a hw => ?_, by show (vs.map some).length = (xs.map (argS t.ρ)).length; rw [List.length_map, List.length_map]; exact hl,
      fun k a => ∃ (i n : Nat), xs[k]? = some (Sum.inr i) ∧ t.ρ[i]? = some (.pin (.town n)) ∧ vs[k]? = some (.ref a), fun k a ⟨i, n, q⟩ => ⟨k, i, n, q⟩, fun k k' a ⟨i, n, q1, q2, q3⟩ ⟨i', n', q4, q5, q6⟩ => ?_, fun k x hx => ?_⟩
    · obtain ⟨k, i, n, q1, q2, q3⟩ := hw
      obtain ⟨v, hv, z1, _⟩ := ha.get q1
      obtain ⟨p, e, z2, z3⟩ := town z1 q2
      have : a = p := by rw [q3] at hv; cases hv; cases e; rfl
      subst this
      have f0 := (ok.fw a (h1 i a z2))
      refine ⟨?_, f0.2⟩
      show thin t.F a = none
      unfold thin
      rw [f0.1]
    · obtain ⟨v, hv, z1, _⟩ := ha.get q1
      obtain ⟨v', hv', z1', _⟩ := ha.get q4
      obtain ⟨p, e, z2, _⟩ := town z1 q2
      obtain ⟨p', e', z2', _⟩ := town z1' q5
      have e1 : a = p := by rw [q3] at hv; cases hv; cases e; rfl
      have e2 : a = p' := by rw [q6] at hv'; cases hv'; cases e'; rfl
      rw [← e1] at z2
      rw [← e2] at z2'
      have e := h2 i i' a z2 z2'
      subst e
      exact pinsOk_inj hp q1 q4
    · have hx : (xs.map (argS t.ρ))[k]? = some x := hx
      rw [List.getElem?_map] at hx
      obtain ⟨y, hy, rfl⟩ := Option.map_eq_some_iff.mp hx
      obtain ⟨v, hv, ho⟩ := ha.get hy
      show SlOk g (thin t.F) t.H _ ((vs.map some)[k]?.join) (argS t.ρ y)
      rw [List.getElem?_map, hv]
      cases y with
      | inl d =>
        have := List.all_eq_true.mp hn _ (List.mem_of_getElem? hy)
        exact ⟨v, rfl, Rep.less (fun _ _ => thin_sqT) ho this⟩
      | inr i =>
        obtain ⟨v', m, e1, e2, e3, hk⟩ := kind hy
        show SlOk g (thin t.F) t.H _ (some v) (sl t.ρ i)
        rw [sl_of e3]
        have ev : v = v' := by rw [hv] at e1; cases e1; rfl
        subst ev
        rcases hk with ⟨n, n', rfl, _⟩ | ⟨ns, ns', rfl, _⟩
        · obtain ⟨p, rfl, z2, z3⟩ := town e2 e3
          exact ⟨p, rfl, ⟨i, n, hy, e3, hv⟩, z3⟩
        · have := h3 i _ e3
          rw [e2] at this
          obtain ⟨a, ea, hs⟩ := this
          exact ⟨a, ea, thin_sqF hs⟩
  · rintro a ⟨k, i, n, q1, q2, q3⟩
    obtain ⟨v, hv, z1, _⟩ := ha.get q1
    obtain ⟨p, e, z2, z3⟩ := town z1 q2
    have : a = p := by rw [q3] at hv; cases hv; cases e; rfl
    subst this
    exact h1 i a z2
  · obtain ⟨O', o1, o2, o3⟩ := oku.sl
    have hsub : ∀ {a : Addr}, (∃ (k i n : Nat), xs[k]? = some (Sum.inr i) ∧ t.ρ[i]? = some (.pin (.town n)) ∧ vs[k]? = some (.ref a)) → ∃ (k i : Nat), xs[k]? = some (Sum.inr i) ∧ O i a := fun {a} ⟨k, i, n, q1, q2, q3⟩ => by
      obtain ⟨v, hv, z1, _⟩ := ha.get q1
      obtain ⟨p, e, z2, z3⟩ := town z1 q2
      have : a = p := by rw [q3] at hv; cases hv; cases e; rfl
      subst this
      exact ⟨k, i, q1, z2⟩
    have ulen : ∀ {k : Nat} {i : Nat}, xs[k]? = some (Sum.inr i) → k < u.ρ.length := fun {k i} hk => by
      rw [← oku.len, eu, List.length_map, hl]; exact some_lt hk
    -- the town is no data behind the call
    have hwf : ∀ a, (∃ (k i n : Nat), xs[k]? = some (Sum.inr i) ∧ t.ρ[i]? = some (.pin (.town n)) ∧ vs[k]? = some (.ref a)) → u.F a = none := fun a ⟨k, i, n, q1, q2, q3⟩ => by
      obtain ⟨v, m, e1, e2, e3, hk⟩ := kind q1
      rw [q2] at e3
      cases e3
      rcases hk with ⟨n1, n', e, hb'⟩ | ⟨ns, ns', e, _⟩
      · have := o3 k _ (by rw [eb]; exact hb')
        rw [eu, List.getElem?_map, q3] at this
        obtain ⟨p, ep, z1, _⟩ := this
        cases ep
        exact (oku.fw a (o1 k a z1)).1
      · cases e
    refine ⟨hwf, fun X hX => ?_⟩
    have nW0 : ∀ {a : Addr} {o : HO}, t.F a = some o → ¬ ∃ (k i n : Nat), xs[k]? = some (Sum.inr i) ∧ t.ρ[i]? = some (.pin (.town n)) ∧ vs[k]? = some (.ref a) := fun {a o} e q => by
      obtain ⟨k, i, _, q2⟩ := hsub q
      rw [(ok.fw a (h1 i a q2)).1] at e; cases e
    have same : ∀ {a : Addr} {o o' : HO}, t.F a = some o → u.F a = some o' → o = o' := fun {a o o'} e e' => by
      cases q : thin t.F a with
      | none =>
        have := go.fr a (by show t.H a ≠ none; rw [ok.ex a o e]; exact fun q => nomatch q) q (nW0 e)
        rw [this] at e'; cases e'
      | some z =>
        have z1 := thin_some q
        rw [e] at z1
        cases z1
        have := go.f a o q
        rw [e'] at this
        cases this; rfl
    classical
    let FN : Hp := fun a => if X a then none else match t.F a with | some o => some o | none => u.F a
    have fnX : ∀ a, X a → FN a = none := fun a h => if_pos h
    have fnF : ∀ {a o}, t.F a = some o → FN a = some o := fun {a o} e => by
      show (if X a then none else match t.F a with | some o => some o | none => u.F a) = _
      rw [if_neg (fun q => by have := (hX a q).1; rw [ok.ex a o e] at this; cases this), e]
    have fnU : ∀ {a o}, u.F a = some o → ¬ X a → FN a = some o := fun {a o} e n => by
      show (if X a then none else match t.F a with | some o => some o | none => u.F a) = _
      rw [if_neg n]
      cases q : t.F a with
      | none => exact e
      | some o' => rw [same q e]
    have fnN : ∀ {a}, t.F a = none → u.F a = none → FN a = none := fun {a} e e' => by
      show (if X a then none else match t.F a with | some o => some o | none => u.F a) = _
      split
      · rfl
      · rw [e, e']
    have exN : Ex FN u.H := fun a o e => by
      have e : (if X a then none else match t.F a with | some o => some o | none => u.F a) = some o := e
      split at e
      · cases e
      · cases q : t.F a with
        | none => rw [q] at e; exact oku.ex a o e
        | some o' =>
          rw [q] at e
          cases e
          exact go.keep a o (ok.ex a o q) (nW0 q)
    have wsub : ∀ {a}, u.W a → (∃ (k i : Nat), xs[k]? = some (Sum.inr i) ∧ O i a) ∨ t.H a = none := fun {a} q => (go.own a q).imp hsub fun z => z
    refine ⟨FN, fun a => (t.W a ∧ ¬ ∃ (k i : Nat), xs[k]? = some (Sum.inr i) ∧ O i a) ∨ u.W a, ⟨exN, fun a hw => ?_, by show t.σ.length = (putPins xs u.ρ t.ρ).length; rw [putPins_len]; exact ok.len,
      fun i a => (∃ (k : Nat), xs[k]? = some (Sum.inr i) ∧ O' k a) ∨ ((¬ ∃ (k : Nat), xs[k]? = some (Sum.inr i)) ∧ O i a), fun i a hw => ?_, fun i j a hi hj => ?_, fun i x hx => ?_⟩, ⟨fun a o e => fnF e, fun a o ha' hw => ?_, fun a q1 q2 q3 => ?_, fun a hw => ?_, fun i m hi => ⟨rfl, ?_⟩⟩, fun a hx => ⟨fnX a hx, fun hw => ?_⟩, fun a o e n => fnU e n⟩
    · rcases hw with ⟨hw, hn⟩ | hw
      · obtain ⟨q1, q2⟩ := ok.fw a hw
        have n0 : ¬ ∃ (k i n : Nat), xs[k]? = some (Sum.inr i) ∧ t.ρ[i]? = some (.pin (.town n)) ∧ vs[k]? = some (.ref a) := fun q => hn (hsub q)
        refine ⟨fnN q1 (go.fr a q2 (by show thin t.F a = none; unfold thin; rw [q1]) n0), ?_⟩
        cases e : t.H a with
        | none => exact absurd e q2
        | some o => show u.H a ≠ none; rw [go.keep a o e n0]; exact fun q => nomatch q
      · obtain ⟨q1, q2⟩ := oku.fw a hw
        refine ⟨fnN ?_ q1, q2⟩
        rcases wsub hw with ⟨k, i, _, z⟩ | z
        · exact (ok.fw a (h1 i a z)).1
        · exact ok.ex.free z
    · rcases hw with ⟨k, q1, q2⟩ | ⟨q1, q2⟩
      · exact .inr (o1 k a q2)
      · exact .inl ⟨h1 i a q2, fun ⟨k, j, q3, q4⟩ => q1 ⟨k, by rw [h2 i j a q2 q4]; exact q3⟩⟩
    · have old : ∀ {i a}, O i a → u.W a → (∃ (k j : Nat), xs[k]? = some (Sum.inr j) ∧ O j a) := fun {i a} q1 q2 => by
        rcases wsub q2 with z | z
        · exact z
        · exact absurd z (ok.fw a (h1 i a q1)).2
      rcases hi with ⟨k, q1, q2⟩ | ⟨q1, q2⟩ <;> rcases hj with ⟨k', q3, q4⟩ | ⟨q3, q4⟩
      · have e := o2 k k' a q2 q4
        subst e
        rw [q1] at q3
        have e : some (Sum.inr i : Arg) = some (Sum.inr j) := q3
        cases e; rfl
      · obtain ⟨k2, j2, z1, z2⟩ := old q4 (o1 k a q2)
        exact absurd ⟨k2, by rw [h2 j j2 a q4 z2]; exact z1⟩ q3
      · obtain ⟨k2, j2, z1, z2⟩ := old q2 (o1 k' a q4)
        exact absurd ⟨k2, by rw [h2 i j2 a q2 z2]; exact z1⟩ q1
      · exact h2 i j a q2 q4
    · have hx : (putPins xs u.ρ t.ρ)[i]? = some x := hx
      show SlOk g FN u.H (fun a => (∃ (k : Nat), xs[k]? = some (Sum.inr i) ∧ O' k a) ∨ ((¬ ∃ (k : Nat), xs[k]? = some (Sum.inr i)) ∧ O i a)) (t.σ[i]?.join) x
      by_cases c : ∃ (k : Nat), xs[k]? = some (Sum.inr i)
      · obtain ⟨k, hk⟩ := c
        obtain ⟨v, m, e1, e2, e3, hkk⟩ := kind hk
        have e := putPins_at xs u.ρ t.ρ k i _ [] hp hk (List.getElem?_eq_getElem (ulen hk)) (some_lt e3)
        rw [e] at hx
        cases hx
        have this := o3 k _ (List.getElem?_eq_getElem (ulen hk))
        rw [eu, List.getElem?_map, e1] at this
        rw [e2]
        have hg : b[k]? = some (u.ρ[k]'(ulen hk)) := by rw [← eb]; exact List.getElem?_eq_getElem (ulen hk)
        rcases hkk with ⟨n, n', _, hb'⟩ | ⟨ns, ns', _, hb'⟩
        · rw [hb'] at hg
          have hg := Option.some.inj hg
          rw [← hg] at this ⊢
          obtain ⟨p, ep, z1, z2⟩ := this
          exact ⟨p, ep, .inl ⟨k, hk, z1⟩, z2⟩
        · rw [hb'] at hg
          have hg := Option.some.inj hg
          rw [← hg] at this ⊢
          obtain ⟨a, ea, hs⟩ := this
          refine ⟨a, ea, ?_⟩
          rcases hs with ⟨o, hs⟩ | hs
          · refine .inl ⟨o, fnU hs fun q => ?_⟩
            obtain ⟨ys, z⟩ := (hX a q).2
            rw [hs] at z; cases z
          · exact .inr hs
      · rw [putPins_off xs u.ρ t.ρ i fun k q => c ⟨k, q⟩] at hx
        refine (h3 i x hx).keep (fun a o e => fnF e) (fun a q hne => ?_) fun a q => .inr ⟨c, q⟩
        cases e : t.H a with
        | none => exact absurd e hne
        | some o =>
          refine go.keep a o e fun q' => ?_
          obtain ⟨k, j, z1, z2⟩ := hsub q'
          have z1 : xs[k]? = some (Sum.inr i) := by rw [h2 i j a q z2]; exact z1
          exact c ⟨k, z1⟩
    · exact go.keep a o ha' fun q => by
        obtain ⟨k, i, _, z⟩ := hsub q
        exact hw (h1 i a z)
    · exact fnN q2 (go.fr a q1 (by show thin t.F a = none; unfold thin; rw [q2]) fun q => by
        obtain ⟨k, i, _, z⟩ := hsub q
        exact q3 (h1 i a z))
    · rcases hw with ⟨hw, _⟩ | hw
      · exact .inl hw
      · rcases wsub hw with ⟨k, i, _, z⟩ | z
        · exact .inl (h1 i a z)
        · exact .inr z
    · show ∃ m', (putPins xs u.ρ t.ρ)[i]? = some (.pin m')
      by_cases c : ∃ (k : Nat), xs[k]? = some (Sum.inr i)
      · obtain ⟨k, hk⟩ := c
        obtain ⟨_, m', q⟩ := go.pk k m (by
          show (xs.map (argS t.ρ))[k]? = _
          rw [List.getElem?_map, hk]
          show some (sl t.ρ i) = _
          rw [sl_of hi])
        exact ⟨m', putPins_at xs u.ρ t.ρ k i _ [] hp hk q (some_lt hi)⟩
      · exact ⟨m, by rw [putPins_off xs u.ρ t.ρ i fun k q => c ⟨k, q⟩]; exact hi⟩
    · obtain ⟨z1, ys, z2⟩ := hX a hx
      rcases hw with ⟨hw, _⟩ | hw
      · exact (ok.fw a hw).2 z1
      · rw [(oku.fw a hw).1] at z2; cases z2
/-! ### its meaning -/
abbrev AF := List Sl → Res (List PyData)
def AftF (g : G) (E : EX) (s : S) : Res (List PyData) → (List PyData → Addr → S → Prop) → Prop
  | .ok ds ρ', k => ∀ F H W p ys, (S.mk F H W s.σ ρ').Ok g → Go s ⟨F, H, W, s.σ, ρ'⟩ → (s.W p ∨ s.H p = none) → H p = some (.lst ys) → F p = none → ¬ W p → RepL g.K F ys ds → k ds p ⟨F, H, W, s.σ, ρ'⟩
  | .exc e ρ', _ => ∀ F H W, (S.mk F H W s.σ ρ').Ok g → Go s ⟨F, H, W, s.σ, ρ'⟩ → E s.σ (g.cls e) none H
  | .bad, _ => False
def SFr (g : G) (E : EX) (te : TE) (a : AF) : Prop := ∀ (s : S) (Q : VK), s.Ok g → AftF g E s (a s.ρ) (fun ds p t => Q (.ref p) t.H) → te s.σ s.H Q
def freshR (xs : List Arg) (ρ : List Sl) : FRes → Res (List PyData)
  | .ok (.list ds) ss => if sameK (xs.map (argS ρ)) ss = true ∧ noLs ds = true then .ok ds (putPins xs ss ρ) else .bad
  | .ok _ _ => .bad
  | .exc e ss => if sameK (xs.map (argS ρ)) ss = true then .exc e (putPins xs ss ρ) else .bad
  | .bad => .bad
def freshB (f : Fn) (xs : List Arg) (ρ : List Sl) : Res (List PyData) := if pinsOk [] xs = true ∧ xs.all argNoL = true then freshR xs ρ (f (xs.map (argS ρ))) else .bad
def aFr (f : Fn) (a : AA) : AF := fun ρ => (a ρ).bind (freshB f)
theorem newP {s t : S} {p : Addr} (go : Go s t) (h : t.W p ∨ t.H p = none) : s.W p ∨ s.H p = none := by
  rcases h with h | h
  · exact go.own p h
  · by_cases hw : s.W p
    · exact .inl hw
    · cases e : s.H p with
      | none => exact .inr rfl
      | some o => rw [go.keep p o e hw] at h; cases h
theorem AftF.bind {α : Type} {s : S} {f : α → List Sl → Res (List PyData)} {k : List PyData → Addr → S → Prop} : ∀ {r : Res α}, AftF g E s (r.bind f) k → Aft g E s r (fun d t => AftF g E t (f d t.ρ) k)
  | .ok d ρ', h => fun F H W ok go => by
    have h' : AftF g E s (f d ρ') k := h
    show AftF g E ⟨F, H, W, s.σ, ρ'⟩ (f d ρ') _
    cases e : f d ρ' with
    | ok b ρ2 =>
      rw [e] at h'
      exact fun F2 H2 W2 p ys ok2 go2 z0 z1 z2 z3 z4 => h' F2 H2 W2 p ys ok2 (go.trans go2) (newP go z0) z1 z2 z3 z4
    | exc x ρ2 =>
      rw [e] at h'
      exact fun F2 H2 W2 ok2 go2 => h' F2 H2 W2 ok2 (go.trans go2)
    | bad => rw [e] at h'; exact h'
  | .exc e ρ', h => h
  | .bad, h => h
theorem sf_call {n : Nat} {f : Fn} {ta : TA} {a : AA} (ha : SA g E ta a) (hn : ∀ s : S, ∀ xs ρ, a s.ρ = .ok xs ρ → xs.length = n) : SFr g E (tCallS (spG g n f) E ta) (aFr f a) := fun s Q ok h => by
  cases e : a s.ρ with
  | bad => unfold aFr at h; rw [e] at h; exact h.elim
  | exc x ρ =>
    refine ha s _ ok ?_
    unfold aFr at h
    rw [e] at h ⊢
    exact h
  | ok xs ρ =>
    have hlen := hn s xs ρ e
    refine ha s _ ok ?_
    have h := AftF.bind (show AftF g E s ((a s.ρ).bind (freshB f)) _ from h)
    rw [e] at h ⊢
    intro F H W ok1 go1 vs hv
    have h1 := h F H W ok1 go1
    have h1 : AftF g E ⟨F, H, W, s.σ, ρ⟩ (freshB f xs ρ) (fun ds p t => Q (.ref p) t.H) := h1
    unfold freshB at h1
    split at h1
    · rename_i hp
      show vs.length = n ∧ _
      cases ef : f (xs.map (argS ρ)) with
      | bad => rw [ef] at h1; exact h1.elim
      | exc x ss =>
        rw [ef] at h1
        unfold freshR at h1
        dsimp only at h1
        split at h1
        · rename_i hk
          obtain ⟨W0, okc, wsub, back⟩ := fresh_back (t := ⟨F, H, W, s.σ, ρ⟩) ok1 hv hp.1 hp.2 ss hk
          refine ⟨by rw [hv.length]; exact hlen, thin F, W0, _, okc, ?_⟩
          rw [ef]
          intro u eu er oku gou
          obtain ⟨hw0, q⟩ := back u eu er oku gou
          obtain ⟨F', W', z1, z2, _⟩ := q (fun _ => False) fun a q => q.elim
          rw [er] at z1 z2
          exact h1 F' u.H W' z1 z2
        · exact h1.elim
      | ok d ss =>
        rw [ef] at h1
        cases d with
        | list ds =>
          unfold freshR at h1
          dsimp only at h1
          split at h1
          · rename_i hk
            obtain ⟨W0, okc, wsub, back⟩ := fresh_back (t := ⟨F, H, W, s.σ, ρ⟩) ok1 hv hp.1 hp.2 ss hk.1
            refine ⟨by rw [hv.length]; exact hlen, thin F, W0, _, okc, ?_⟩
            rw [ef]
            intro v u eu er oku gou rv
            obtain ⟨p, ys, rfl, hpl, hys⟩ := rv.lst_inv
            obtain ⟨hw0, q⟩ := back u eu er oku gou
            have hnew : H p = none := by
              cases eH : H p with
              | none => rfl
              | some o =>
                cases eF : thin F p with
                | some o' =>
                  have := gou.f p o' eF
                  rw [hpl] at this
                  cases this
                  exact (thin_lst eF).elim
                | none =>
                  by_cases hw : W0 p
                  · rw [hw0 p hw] at hpl; cases hpl
                  · have := gou.fr p (by show H p ≠ none; rw [eH]; exact fun q => nomatch q) eF hw
                    rw [this] at hpl; cases hpl
            obtain ⟨F', W', z1, z2, z3, z4⟩ := q (fun a => a = p) fun a q => by subst q; exact ⟨hnew, ys, hpl⟩
            rw [er] at z1 z2
            refine h1 F' u.H W' p ys z1 z2 (.inr hnew) (oku.ex p _ hpl) (z3 p rfl).1 (z3 p rfl).2 (RepL.less (fun b xs hb => ?_) hys hk.2)
            rcases hb with (hb | ⟨o, hb⟩) | hb
            · exact .inl (.inl (z4 b _ hb fun e => by subst e; rw [hpl] at hb; cases hb))
            · exact .inl (.inr ⟨o, z4 b _ hb fun e => by subst e; rw [hpl] at hb; cases hb⟩)
            · exact .inr hb
          · exact h1.elim
        | none => exact h1.elim
        | bool _ => exact h1.elim
        | int _ => exact h1.elim
        | str _ => exact h1.elim
        | tuple _ => exact h1.elim
        | dict _ => exact h1.elim
    · exact h1.elim
/-! x = f(..), to be built on -/
def ownF (i : Nat) (ds : List PyData) (ρ : List Sl) : SRes := nxO (putS ρ i (.own (.list ds)))
def asOwnF (i : Nat) (a : AF) : AS := fun ρ => (a ρ).thn (ownF i)
theorem ss_ownF {i : Nat} {te : TE} {a : AF} (ha : SFr g E te a) : SS g E (tAsg te (gName i)) (asOwnF i a) := fun s D ok h => by
  refine ha s _ ok ?_
  have h : AftS g E s ((a s.ρ).thn (ownF i)) (KE.of g D) := h
  cases e : a s.ρ with
  | bad => rw [e] at h; exact h.elim
  | exc x ρ =>
    rw [e] at h
    exact fun F H W ok1 go1 => h ⟨F, H, W, s.σ, ρ⟩ rfl ok1 go1
  | ok ds ρ =>
    rw [e] at h
    intro F H W p ys ok1 go1 z1 z2 z3 z4 z5
    have h : AftS g E s (nxO (putS ρ i (.own (.list ds)))) (KE.of g D) := h
    cases e2 : putS ρ i (.own (.list ds)) with
    | none => rw [e2] at h; exact h.elim
    | some ρ2 =>
      rw [e2] at h
      obtain ⟨h1, h2, rfl⟩ := putS_some e2
      have okA := S.Ok.adopt (s := ⟨F, H, W, s.σ, ρ⟩) (i := i) (x' := .own (.list ds)) ok1 z2 z3 z4 h1 h2 ⟨p, ys, rfl, rfl, z2, z5⟩
      refine h _ rfl okA ⟨go1.f, go1.keep, go1.fr, fun a ha => ?_, fun j m hj => ?_⟩
      · rcases (show W a ∨ a = p from ha) with ha | rfl
        · exact go1.own a ha
        · exact z1
      · obtain ⟨q1, m', q2⟩ := go1.pk j m hj
        have hji : i ≠ j := fun q => by
          subst q
          have q2 : ρ[i]? = some (.pin m') := q2
          rw [sl_of q2] at h2; cases h2
        refine ⟨?_, m', ?_⟩
        · show (s.σ.set i _)[j]? = _; rw [List.getElem?_set_ne hji]
        · show (ρ.set i _)[j]? = _; rw [List.getElem?_set_ne hji]; exact q2
/-! f(..).append(None) -/
def dropF (ds : List PyData) (ρ : List Sl) : SRes := if ds.length ≤ 10000 then .nx ρ else .bad
def asDropF (a : AF) : AS := fun ρ => (a ρ).thn dropF
theorem ss_dropF {te : TE} {a : AF} (ha : SFr g E te a) : SS g E (tDrop (tBM g.K "list" rAppend te (tCons (tC .non) tNil))) (asDropF a) := fun s D ok h => by
  refine ha s _ ok ?_
  have h : AftS g E s ((a s.ρ).thn dropF) (KE.of g D) := h
  cases e : a s.ρ with
  | bad => rw [e] at h; exact h.elim
  | exc x ρ =>
    rw [e] at h
    exact fun F H W ok1 go1 => h ⟨F, H, W, s.σ, ρ⟩ rfl ok1 go1
  | ok ds ρ =>
    rw [e] at h
    intro F H W p ys ok1 go1 z1 z2 z3 z4 z5
    have h : AftS g E s (dropF ds ρ) (KE.of g D) := h
    unfold dropF at h
    split at h
    · rename_i c
      refine ⟨.inl ⟨rfl, ys, sqL_of z2⟩, p, ys, .non, rfl, rfl, z2, by rw [z5.length]; exact Nat.lt_of_le_of_lt c (by decide), ?_⟩
      refine h ⟨F, _, W, s.σ, ρ⟩ rfl (S.Ok.more (s := ⟨F, H, W, s.σ, ρ⟩) ok1 z3 z4) ⟨go1.f, fun a o q1 q2 => ?_, go1.fr, go1.own, go1.pk⟩
      show upd H p _ a = some o
      rw [upd_ne]
      · exact go1.keep a o q1 q2
      · intro q
        subst q
        rcases z1 with z1 | z1
        · exact q2 z1
        · rw [z1] at q1; cases q1
    · exact h.elim
end
section
variable {X : Cx} {g : G} {E : EX} {K : Fr}
theorem psd_ownF {k j n i : Nat} {x y : Str} {f : Fn} {es : List Expr} {e : Expr} {t : TA} {q : AA} {p px cp pos : Pos} (c : Cl X.prog X.w X.K X.mg X.base (g.at X.K) k n x f) (hr : Room j X.A) (hx : ∀ σ, PassesAt (L2.CX X.prog X.w) X σ (E σ)) (ha : PAD X g E (e :: es) t q n) (hN : X.N.Nodup) (hk : k ≤ j := by decide) (hg : Gl X x := by rfl)
    (hdb : (x == ("__debug__" : Str)) = false := by decide) (he : starEach (e :: es) X.env = (false, eval e X.env) :: starEach es X.env := by rfl) (hpl : (backTo cp (starEach es X.env)).any (·.1) = false := by rfl)
    (hi : X.N[i]? = some y := by rfl) (hxl : Loc X.env.scope y := by first | exact .inl rfl | exact .inr rfl) (hf : X.fn y = true ∨ X.env.scope.names.lookup y = some .local := by first | exact .inl rfl | exact .inr rfl | assumption)
    (hs : swapsWithSole [.Name y px] (.Call (.Name x p) (e :: es) [] cp) pos.line X.env = pure false := by rfl) (hw : swappedStores [.Name y px] (.Call (.Name x p) (e :: es) [] cp) X.env = pure none := by rfl) (hK : X.K = K := by rfl) :
    PSD X g E (.Assign [.Name y px] (.Call (.Name x p) (e :: es) [] cp) pos) (tAsg (tCallS (spG (g.at K) n f) E t) (gName i)) (asOwnF i (aFr f q)) := by
  subst hK
  obtain ⟨fa, fd, ps, h1, h2, h3, h4⟩ := c.ex
  exact ⟨ps_asg (pe_callS h1 (hr.mono hk) hg h2 h3 h4 hx ha.pa hdb he hpl) (pg_name hN hi hxl hf) hs hw, ss_ownF (sf_call ha.sa fun s xs ρ => ha.len _ _ _)⟩
theorem psd_dropF {k j n : Nat} {x : Str} {f : Fn} {es : List Expr} {e : Expr} {t : TA} {q : AA} {jj} {p p2 apos cpos cp pos : Pos} (c : Cl X.prog X.w X.K X.mg X.base (g.at X.K) k n x f) (hr : Room j X.A) (hx : ∀ σ, PassesAt (L2.CX X.prog X.w) X σ (E σ)) (ha : PAD X g E (e :: es) t q n) (hk : k ≤ j := by decide) (hg : Gl X x := by rfl)
    (hdb : (x == ("__debug__" : Str)) = false := by decide) (he : starEach (e :: es) X.env = (false, eval e X.env) :: starEach es X.env := by rfl) (hpl : (backTo cp (starEach es X.env)).any (·.1) = false := by rfl)
    (hbase : attributeBase (.Call (.Name x p) (e :: es) [] cp) "append" X.env (eval (.Call (.Name x p) (e :: es) [] cp) X.env) = eval (.Call (.Name x p) (e :: es) [] cp) X.env := by rfl)
    (hfew : ((backTo cpos (starEach [.Constant .none jj p2] X.env)).all (fun x => !x.1) && (backToKw cpos (keywordEach [] X.env)).all (fun x => x.1.isSome) && decide (([.Constant .none jj p2] : List Expr).length + ([] : List Keyword).length + (if ([] : List Keyword).isEmpty then 0 else 1) < 30)) = true := by rfl)
    (hline : (apos.endLine == cpos.line) = true := by rfl) (hst : starEach [.Constant .none jj p2] X.env = (false, eval (.Constant .none jj p2) X.env) :: starEach [] X.env := by rfl) (hpl2 : (backTo cpos (starEach [] X.env)).any (·.1) = false := by rfl)
    (hs : swapsWith (.Call (.Attribute (.Call (.Name x p) (e :: es) [] cp) "append" apos) [.Constant .none jj p2] [] cpos) none pos.line X.env = pure false := by rfl) (hK : X.K = K := by rfl) :
    PSD X g E (.Expr (.Call (.Attribute (.Call (.Name x p) (e :: es) [] cp) "append" apos) [.Constant .none jj p2] [] cpos) pos) (tDrop (tBM K "list" rAppend (tCallS (spG (g.at K) n f) E t) (tCons (tC .non) tNil))) (asDropF (aFr f q)) := by
  subst hK
  obtain ⟨fa, fd, ps, h1, h2, h3, h4⟩ := c.ex
  exact ⟨ps_expr (pe_bm PySem.F.plainAttrs_list PySem.F.slot_list_append PySem.F.type_list_append mt_append (pe_callS h1 (hr.mono hk) hg h2 h3 h4 hx ha.pa hdb he hpl) (pa_cons (pd_non (g := g) (E := E)).pe pa_nil hst) hbase hfew hline hst hpl2) hs, ss_dropF (g := g.at X.K) (sf_call ha.sa fun s xs ρ => ha.len _ _ _)⟩
end
theorem e_ownF {i : Nat} {a : AF} {ρ : List Sl} : asOwnF i a ρ = (a ρ).thn (ownF i) := rfl
theorem e_dropF {a : AF} {ρ : List Sl} : asDropF a ρ = (a ρ).thn dropF := rfl
theorem e_fr {f : Fn} {a : AA} {ρ : List Sl} : aFr f a ρ = (a ρ).bind (freshB f) := rfl
theorem freshB_ok {f : Fn} {xs : List Arg} {ρ : List Sl} (h : (pinsOk [] xs && xs.all argNoL) = true) : freshB f xs ρ = freshR xs ρ (f (xs.map (argS ρ))) := if_pos ((Bool.and_eq_true _ _).mp h)
theorem freshR_ok {xs : List Arg} {ρ ss : List Sl} {ds : List PyData} (h : (sameK (xs.map (argS ρ)) ss && noLs ds) = true) : freshR xs ρ (.ok (.list ds) ss) = .ok ds (putPins xs ss ρ) := if_pos ((Bool.and_eq_true _ _).mp h)
theorem dropF_ok {ds : List PyData} {ρ : List Sl} (h : ds.length ≤ 10000) : dropF ds ρ = .nx ρ := if_pos h
theorem noLs_ints : ∀ l : List Int, noLs (l.map .int) = true
  | [] => rfl
  | _ :: l => by show (true && noLs (l.map .int)) = true; rw [noLs_ints l]; rfl
theorem noLs_st : ∀ l : List (Int × Int), noLs (l.map stD) = true
  | [] => rfl
  | _ :: l => by show (noL (stD _) && noLs (l.map stD)) = true; rw [noLs_st l]; rfl
theorem noL_line (vs : List Int) : noL (lineD vs) = true := by
  show (true && (noLs ((stp vs).map stD) && true)) = true
  rw [noLs_st]; rfl
end DL

/-! dict(pairs); k in d, k not in d, d[k] of dicts that are data; keys are ints or texts. -/
namespace DL
open PySem PySem.Spec PyProof.Rows L2
def keyIs (k p : D) : Bool := match k, p with
  | .int i, .int j => decide (j = i)
  | .str x, .str y => decide (y = x)
  | _, _ => false
def dGetK (es : List (D × D)) (k : D) : Option D := (es.find? fun p => keyIs k p.1).map (·.2)
def keyOf : D → Option Key
  | .int i => some (.inl i)
  | .str x => some (.inr x)
  | _ => none
theorem keyOf_eq {d : D} {k : Key} (h : keyOf d = some k) : d = keyD k := by
  cases d <;> first | cases h; rfl | cases h
theorem keyIs_D (k x : Key) : keyIs (keyD k) (keyD x) = decide (x = k) := by
  cases k <;> cases x
  · exact decide_eq_decide.mpr ⟨fun e => by rw [e], fun e => Sum.inl.inj e⟩
  · exact (decide_eq_false fun q => nomatch q).symm
  · exact (decide_eq_false fun q => nomatch q).symm
  · exact decide_eq_decide.mpr ⟨fun e => by rw [e], fun e => Sum.inr.inj e⟩
section
variable {K : Fr} {F : Hp}
theorem repK_getK {k : Key} : ∀ {kvs : List (Key × V)} {es : List (D × D)}, RepK K F kvs es → (∃ v d, valV kvs k = some v ∧ dGetK es (keyD k) = some d ∧ Rep K F v d) ∨ (valV kvs k = none ∧ dGetK es (keyD k) = none)
  | _, _, .nil => .inr ⟨rfl, rfl⟩
  | _, _, .cons (k := x) (v := v) (d := d) h r => by
    by_cases c : x = k
    · refine .inl ⟨v, d, valV_pos c, ?_, h⟩
      unfold dGetK
      rw [List.find?_cons_of_pos (by rw [keyIs_D]; exact decide_eq_true c)]; rfl
    · have e2 : ∀ es : List (D × D), dGetK ((keyD x, d) :: es) (keyD k) = dGetK es (keyD k) := fun es => by
        unfold dGetK
        rw [List.find?_cons_of_neg (by rw [keyIs_D]; simpa using c)]
      rw [valV_neg c, e2]
      exact repK_getK r
end
/-- the pairs of a list -/
def pairs : List D → Option (List (Key × D))
  | [] => some []
  | .tuple [a, d] :: r => (keyOf a).bind fun k => (pairs r).map ((k, d) :: ·)
  | _ :: _ => none
def esOf (ps : List (Key × D)) : List (D × D) := ps.map fun p => (keyD p.1, p.2)
def oDictP : List D → Option D
  | [.list ds] => (pairs ds).bind fun ps => if (ps.map (·.1)).Nodup then some (.dict (esOf ps)) else none
  | _ => none
def oInD (neg : Bool) : D → D → Option D
  | k, .dict es => (keyOf k).map fun _ => .bool ((dGetK es k).isSome != neg)
  | _, _ => none
def oGetK : D → D → Option D
  | .dict es, k => (keyOf k).bind fun _ => dGetK es k
  | _, _ => none
section
variable {X : Cx} {g : G} {E : EX} {K : Fr}
theorem pairs_rep {F H : Hp} (e : Ex F H) : ∀ {vs : List V} {ds : List D} {ps : List (Key × D)}, RepL K F vs ds → pairs ds = some ps →
    ∃ (as : List Addr) (kvs : List (Key × V)), vs = as.map V.ref ∧ Paired (fun p kv => SqT K H p [kV kv.1, kv.2]) as kvs ∧ RepK K F kvs (esOf ps) ∧ kvs.map (·.1) = ps.map (·.1)
  | _, _, ps, .nil, h => by
    cases h
    exact ⟨[], [], rfl, .nil, .nil, rfl⟩
  | _, _, ps, .cons (v := v) (d := d0) (vs := vs) (ds := ds) h r, hp => by
    unfold pairs at hp
    split at hp
    · rename_i e0; cases e0
    · rename_i a d r' e0
      cases e0
      obtain ⟨k, hk, hp⟩ := Option.bind_eq_some_iff.mp hp
      obtain ⟨ps', hps, rfl⟩ := Option.map_eq_some_iff.mp hp
      obtain ⟨as, kvs, rfl, h1, h2, h3⟩ := pairs_rep e r hps
      cases h with
      | tup hA rA =>
        rename_i p ws
        cases rA with
        | cons ra rr =>
          cases rr with
          | cons rd rn =>
            cases rn
            rename_i va vd
            have ea := keyOf_eq hk
            subst ea
            have ev : va = kV k := by
              cases k with
              | inl i => exact ra.int_inv
              | inr x => exact ra.str_inv
            subst ev
            exact ⟨p :: as, (k, vd) :: kvs, rfl, .cons (e.sqT hA) h1, .cons rd h2, by rw [List.map_cons, List.map_cons, h3]⟩
    · cases hp
theorem merge_nodup : ∀ (more acc : List (Key × V)), ((acc ++ more).map (·.1)).Nodup → mergeK acc more = acc ++ more
  | [], acc, _ => by rw [List.append_nil]; rfl
  | p :: more, acc, h => by
    have hn : valV acc p.1 = none := by
      cases e : valV acc p.1 with
      | none => rfl
      | some v =>
        exfalso
        have h1 := valV_any p.1 acc
        rw [e] at h1
        obtain ⟨q, hq, hq2⟩ := List.any_eq_true.mp h1
        rw [List.map_append, List.map_cons] at h
        have := (List.nodup_append.mp h).2.2 q.1 (List.mem_map_of_mem hq) p.1 List.mem_cons_self
        exact this (of_decide_eq_true hq2)
    show mergeK (putK acc p.1 p.2) more = _
    rw [putK_new _ hn, merge_nodup more _ (by rw [List.append_assoc]; exact h), List.append_assoc]; rfl
theorem cs_dictP : CS g (fun xs H Q => ∃ (a : Addr) (ps : List Addr) (kvs : List (Key × V)), xs = [.ref a] ∧ SqL g.K H a (ps.map V.ref) ∧ Paired (fun p kv => SqT g.K H p [kV kv.1, kv.2]) ps kvs ∧
    ∀ p, H p = none → Q (.ref p) (upd H p (.dK (mergeK [] kvs)))) oDictP := fun s vs ds d Q ok rs hf k => by
  unfold oDictP at hf
  split at hf
  · obtain ⟨ps, hp, hf⟩ := Option.bind_eq_some_iff.mp hf
    split at hf
    · rename_i hn
      cases hf
      cases rs with | cons r1 rs =>
      cases rs
      cases r1 with | lst hA rA =>
      rename_i a ws
      obtain ⟨as, kvs, rfl, h1, h2, h3⟩ := pairs_rep ok.ex rA hp
      refine ⟨a, as, kvs, rfl, sqL_of (ok.ex _ _ hA), h1, fun p hp => ?_⟩
      rw [merge_nodup kvs [] (by rw [List.nil_append, h3]; exact hn), List.nil_append]
      obtain ⟨ok', go⟩ := ok.new (o := .dK kvs) hp
      exact k _ _ _ ok' go (.dic upd_same (RepK.mono go.f h2))
    · cases hf
  · cases hf
theorem rs_inD (neg : Bool) : RS g (fun y x H Q => ∃ a o, x = .ref a ∧ DGet H a y o ∧ Q (.bl (o.isSome != neg)) H) (oInD neg) := RS.sc fun F H x y d1 d2 d Q e r1 r2 hf k => by
  unfold oInD at hf
  split at hf
  · rename_i kd es
    obtain ⟨kk, hk, rfl⟩ := Option.map_eq_some_iff.mp hf
    cases r2 with | dic hA rA =>
    have ea := keyOf_eq hk
    subst ea
    have ev : x = kV kk := by
      cases kk with
      | inl i => exact r1.int_inv
      | inr x => exact r1.str_inv
    subst ev
    refine ⟨_, _, rfl, DGet.k (k := kk) (e _ _ hA), ?_⟩
    rcases repK_getK (k := kk) rA with ⟨v, d, q1, q2, q3⟩ | ⟨q1, q2⟩
    · rw [q1]; rw [q2] at k; exact k _ (.bl _)
    · rw [q1]; rw [q2] at k; exact k _ (.bl _)
  · cases hf
theorem rs_getK : RS g (fun x y H Q => ∃ a v, x = .ref a ∧ DGet H a y (some v) ∧ Q v H) oGetK := RS.sc fun F H x y d1 d2 d Q e r1 r2 hf k => by
  unfold oGetK at hf
  split at hf
  · rename_i es
    obtain ⟨kk, hk, hf⟩ := Option.bind_eq_some_iff.mp hf
    cases r1 with | dic hA rA =>
    have ea := keyOf_eq hk
    subst ea
    have ev : y = kV kk := by
      cases kk with
      | inl i => exact r2.int_inv
      | inr x => exact r2.str_inv
    subst ev
    rcases repK_getK (k := kk) rA with ⟨v, d', q1, q2, q3⟩ | ⟨q1, q2⟩
    · rw [q2] at hf
      cases hf
      have := DGet.k (k := kk) (e _ _ hA)
      rw [q1] at this
      exact ⟨_, v, rfl, this, k v q3⟩
    · rw [q2] at hf; cases hf
  · cases hf
theorem bb_dict : bootBuiltins "dict" = some (.type "dict") := by decide +kernel
theorem pd_dictP {a : Expr} {es : List Expr} {t : TA} {q : AD} {p pos : Pos} (hm : X.mg "dict" = none) (ha : PDD X g E (a :: es) t q) (hg : Gl X "dict" := by rfl) (he : starEach (a :: es) X.env = (false, eval a X.env) :: starEach es X.env := by rfl) (hpl : (backTo pos (starEach es X.env)).any (·.1) = false := by rfl) (hc : X.calm = true := by rfl) (hK : X.K = K := by rfl) :
    PD X g E (.Call (.Name "dict" p) (a :: es) [] pos) (tCB (fun xs H Q => ∃ (a : Addr) (ps : List Addr) (kvs : List (Key × V)), xs = [.ref a] ∧ SqL K H a (ps.map V.ref) ∧ Paired (fun p kv => SqT K H p [kV kv.1, kv.2]) ps kvs ∧
    ∀ p, H p = none → Q (.ref p) (upd H p (.dK (mergeK [] kvs)))) t) (aCB oDictP q) := by
  subst hK
  exact pd_ct (call_dictP hc) (cs_dictP (g := g.at X.K)) bb_dict hm ha hg (by decide) (by decide) he hpl
theorem ptd_ninD {a b : Expr} {ta tb : TE} {α β : AE} {pos : Pos} (hu : X.A.units + 64 < cLine) (ha : PD X g E a ta α) (hb : PD X g E b tb β) (hm : behindInMarks .NotIn b = false := by first | exact nobehind _ (by decide) (by decide) | rfl) :
    PTD X g E (.Compare a [.NotIn] [b] pos) (tB (tDNotIn ta tb)) (aTest (aBin (oInD true) α β)) := by
  refine ⟨pt_cmp (pc_dnotin (by omega) ha.pe hb.pe) hm, st_B ?_⟩
  have := se_bin (g := g.at X.K) (rs_inD true) ha.se hb.se
  have e : (fun (y x : V) (H : Hp) (Q : VK) => ∃ a o, x = .ref a ∧ DGet H a y o ∧ Q (.bl (o.isSome != true)) H) = (fun y x H Q => ∃ a o, x = .ref a ∧ DGet H a y o ∧ Q (.bl (!o.isSome)) H) := by
    funext y x H Q
    simp
  rw [e] at this
  exact this
theorem pd_inD {a b : Expr} {ta tb : TE} {α β : AE} {pos : Pos} (hu : X.A.units + 64 < cLine) (ha : PD X g E a ta α) (hb : PD X g E b tb β) (hm : behindInMarks .In b = false := by first | exact nobehind _ (by decide) (by decide) | rfl) :
    PD X g E (.Compare a [.In] [b] pos) (tDIn ta tb) (aBin (oInD false) α β) := by
  refine ⟨pe_cmp (pc_din (by omega) ha.pe hb.pe) hm, ?_⟩
  have := se_bin (g := g.at X.K) (rs_inD false) ha.se hb.se
  have e : (fun (y x : V) (H : Hp) (Q : VK) => ∃ a o, x = .ref a ∧ DGet H a y o ∧ Q (.bl (o.isSome != false)) H) = (fun y x H Q => ∃ a o, x = .ref a ∧ DGet H a y o ∧ Q (.bl o.isSome) H) := by
    funext y x H Q
    simp
  rw [e] at this
  exact this
theorem pd_ixD {a b : Expr} {ta tb : TE} {α β : AE} {pos : Pos} (hu : X.A.units + 64 < cLine) (ha : PD X g E a ta α) (hb : PD X g E b tb β) (hs : NoSl b := by exact fun _ _ => rfl) : PD X g E (.Subscript a b pos) (tDGet ta tb) (aBin oGetK α β) :=
  ⟨pe_dget (by omega) ha.pe hb.pe hs, se_bin (g := g.at X.K) rs_getK ha.se hb.se⟩
end
end DL

/-! sorted(d.items()), the keys and the values of d ints -/
namespace DL
open PySem PySem.Spec PyProof.Rows L2 L2.DX
abbrev I2 := Int × Int
abbrev entI (e : I2) : Key × V := (Sum.inl e.1, V.int e.2)
def rItemsK : V → List V → Hp → VK → Prop := fun x xs H Q => ∃ (a : Addr) (kvs : List (Key × V)), x = .ref a ∧ xs = [] ∧ Rd H a (.dK kvs) ∧ ∀ p, H p = none → Q (.ref p) (upd H p (itemsO p a))
section
variable {X : Cx}
theorem mt_itemsK : MtR X "dict.items" rItemsK := by
  intro pins s σ H x xs v us Q I rx rxs h
  obtain ⟨a, kvs, rfl, rfl, ha, q⟩ := h
  cases rx
  cases rxs
  obtain ⟨z, hd, vs, rel, o, es, ep, ho, hx, hdat, _⟩ := dk_rd I.hok ha
  refine DT.callItems (es := es) (ep := ep) hd ⟨o, ho, hx, hdat⟩ ?_
  have hf : H s.heap.objs.size = none := I.hok.fresh (Nat.le_refl _)
  exact ⟨.ref s.heap.objs.size, upd H s.heap.objs.size (itemsO s.heap.objs.size a), I.laid (t' := s.toks) (fun b u e => Heap.get?_push_of_some _ e) (Nat.le_refl _) (itemsO_ok (Heap.get?_push_size _ rfl)), rfl, q _ hf⟩
/-- new pairs -/
def updT (H : Hp) : List (Addr × I2) → Hp
  | [] => H
  | z :: r => updT (upd H z.1 (.tup [.int z.2.1, .int z.2.2])) r
theorem takeU {pins : List (Addr × Obj)} {σ : L2.St} {H0 : Hp} {s : Shared} {h' : Heap} {tk : Nat} (I0 : Inv X pins σ H0 s) : ∀ (L : List (Addr × I2)) (H1 : Hp), Inv X pins σ H1 { s with heap := h', toks := tk } → (L.map (·.1)).Nodup →
    (∀ z ∈ L, s.heap.objs.size ≤ z.1 ∧ H1 z.1 = none ∧ ∀ H2, ObjOk X.prog X.w H2 h' z.1 (.tup [.int z.2.1, .int z.2.2])) → Inv X pins σ (updT H1 L) { s with heap := h', toks := tk }
  | [], H1, I1, _, _ => I1
  | z :: L, H1, I1, hn, h => by
    obtain ⟨hb, hnone, ok⟩ := h z (List.mem_cons_self ..)
    have IA : Inv X pins σ (upd H1 z.1 (.tup [.int z.2.1, .int z.2.2])) { s with heap := h', toks := tk } := I1.take (h' := h') (t' := tk) (fun b ob _ e => e) (I0.fpOk hb hnone) (ok _)
    rw [List.map_cons, List.nodup_cons] at hn
    refine takeU I0 L _ IA hn.2 fun c hc => ?_
    obtain ⟨c1, c2, c3⟩ := h c (List.mem_cons_of_mem _ hc)
    exact ⟨c1, by rw [upd_ne (fun q => hn.1 (by rw [← q]; exact List.mem_map_of_mem hc))]; exact c2, c3⟩
def rSortItK : List V → Hp → VK → Prop := fun vs H Q => ∃ (p a : Addr) (l : List I2), vs = [.ref p] ∧ H p = some (itemsO p a) ∧ Rd H a (.dK (l.map entI)) ∧ l.length ≤ 1000 ∧
  ∀ (L zs : List (Addr × I2)) (q : Addr), (L.map (·.1)).Nodup → (∀ z ∈ L, H z.1 = none) → (∀ z ∈ L, z.1 ≠ q) → H q = none → L.map (·.2) = l → zs.Perm L → (zs.map (·.2)).Pairwise (fun e f => SrtO.lexB f e = false) →
    Q (.ref q) (upd (updT H L) q (.lst (zs.map fun z => V.ref z.1)))
/-- the pair that stands at a value -/
def pairAt (h : Heap) (v : Value) : I2 := match v with
  | .ref b => match (h.get? b).map (·.data) with
    | some (Data.seq its _) => match its.toList with
      | [.int x _, .int y _] => (x, y)
      | _ => (0, 0)
    | _ => (0, 0)
  | _ => (0, 0)
theorem pairAt_of {h : Heap} {b : Addr} {x y : Int} {t u : Tok} {o : Obj} {n : Nat} (e : h.get? b = some o) (hd : o.data = .seq #[.int x t, .int y u] n) : pairAt h (.ref b) = (x, y) := by
  unfold pairAt
  dsimp only
  rw [e, Option.map_some, hd]
theorem cr_sortedItK (hc : X.calm = true) : CallR X (.builtin "sorted") rSortItK := by
  intro pins s σ H xs us Q I r h
  obtain ⟨p, a, l, rfl, hp, ha, hlen, q⟩ := h
  obtain rfl := Vals.ref1 r
  have view : s.heap.IsItemsView p a := (show ObjOk X.prog X.w H s.heap p (itemsO p a) from I.hok p _ hp).1
  obtain ⟨z, hd, vs, rel, o, es, ep, ho, hx, hdat, hks, hpr, hnd⟩ := dk_rd I.hok ha
  have l1 : l.length = vs.length := by rw [← rel.length, List.length_map]
  have l2 : es.size = vs.length := by rw [← Array.length_toList]; exact hpr.length
  have hh : X.A.handled = none := I.ok.hd hc
  refine DT.sortedI (es := es) (ep := ep) hh view ⟨o, ho, hx, hdat⟩ (by rw [sizeLine_eq]; omega) fun h' tk as hk hlt hl hG => ?_
  have lak : as.length = l.length := by omega
  have nd : as.Nodup := List.Pairwise.imp (fun h => Nat.ne_of_lt h) hG.rise
  have pr : ∀ (j : Nat) (b : Addr), as[j]? = some b → ∃ (e : I2) (t u : Tok), l[j]? = some e ∧ h'.get? b = some { cls := .type "tuple", data := .seq #[.int e.1 t, .int e.2 u] } := by
    intro j b hj
    obtain ⟨en, he, hg⟩ := hG.pairs j b hj
    have hjl : j < vs.length := by rw [← l2]; exact (Array.getElem?_eq_some_iff.mp he).1
    have hkv : vs[j]? = some (vs[j]) := List.getElem?_eq_getElem hjl
    generalize vs[j] = kv at hkv
    obtain ⟨e0, he0, r1, r2⟩ := pget rel hkv
    rw [List.getElem?_map] at he0
    cases hlj : l[j]? with
    | none => rw [hlj] at he0; cases he0
    | some e =>
      rw [hlj] at he0
      have ee : entI e = e0 := Option.some.inj he0
      subst ee
      obtain ⟨k1, k2⟩ := hpr.get? (i := j) (e := en) (k := kv.1) (v := kv.2) (by rw [Array.getElem?_toList]; exact he) hkv
      have k1 : L2.keyIs kv.1 en.key = true := k1
      rw [← r1] at k1
      obtain ⟨u, hu⟩ : ∃ u, kv.2 = Value.int e.2 u := r2
      rcases keyIs_shape k1 with ⟨i, t, ek, ev⟩ | ⟨x, t, ek, ev⟩
      · have ei : e.1 = i := Sum.inl.inj ek
        refine ⟨e, t, u, rfl, ?_⟩
        rw [hg, ev, k2, hu, ei]
      · cases ek
  have hob : (h'.push { cls := .type "list", data := .seq (as.map Value.ref).toArray }).get? h'.objs.size = some (seqObj "list" (as.map Value.ref).toArray 0) := Heap.get?_push_size _ rfl
  have kb : ∀ b o, s.heap.get? b = some o → (h'.push { cls := .type "list", data := .seq (as.map Value.ref).toArray }).get? b = some o := fun b o e => Heap.get?_push_of_some _ (hk b o e)
  have ne0 : ∀ b o, h'.get? b = some o → b ≠ h'.objs.size := fun b o e => Nat.ne_of_lt (Heap.lt_size e)
  generalize hh2 : h'.push { cls := .type "list", data := .seq (as.map Value.ref).toArray } = h2 at hob kb ⊢
  have ka : ∀ b o, h'.get? b = some o → h2.get? b = some o := fun b o e => by rw [← hh2]; exact Heap.get?_push_of_some _ e
  have at_ : ∀ (j : Nat) (b : Addr) (e : I2), as[j]? = some b → l[j]? = some e → pairAt h2 (.ref b) = e := fun j b e hj he => by
    obtain ⟨e', t, u, q1, q2⟩ := pr j b hj
    rw [he] at q1
    cases q1
    exact pairAt_of (ka _ _ q2) rfl
  refine wpAny_call_entry PyProof.Rows.slot_list_sort ⟨_, hob, rfl⟩ PyProof.Rows.entry_list_sort
    (SrtO.list_sort_ord (s := { s with heap := h2, toks := tk }) (vs := as.map Value.ref) (SrtO.swo_lex (pairAt h2)) hob (by rw [List.length_map, sizeLine_eq]; omega) (fun h2l => SrtO.pairs_sortableO (k := pairAt h2) (by omega) (fun v hv => ?_) (fun o ho => ?_)) fun out o1 o2 => ⟨.none, rfl, ?_⟩) (PyProof.Rows.args_list_sort _)
  · obtain ⟨b, hb, rfl⟩ := List.mem_map.mp hv
    obtain ⟨j, hj⟩ := List.mem_iff_getElem?.mp hb
    obtain ⟨e, t, u, q1, q2⟩ := pr j b hj
    rw [at_ j b e hj q1]
    exact ⟨b, _, t, u, _, rfl, ka _ _ q2, rfl, rfl⟩
  · have ho : h2.get? h'.objs.size = some o := ho
    rw [hob] at ho
    cases ho
    show Value.type "list" ≠ Value.type "tuple"
    decide
  · show EP X pins σ Q (.ref h'.objs.size) { s with heap := sortedHeap h2 h'.objs.size (as.map Value.ref) out.toArray, toks := tk }
    obtain ⟨zs, pz, ez⟩ := perm_lift (fun z : Addr × I2 => Value.ref z.1) o2.perm (as.zip l) (by
      rw [show (fun z : Addr × I2 => Value.ref z.1) = Value.ref ∘ Prod.fst from rfl, ← List.map_map, List.map_fst_zip (by omega)])
    have idx : ∀ z ∈ as.zip l, ∃ j : Nat, as[j]? = some z.1 ∧ l[j]? = some z.2 := by
      intro z' hz'
      obtain ⟨j, hj⟩ := List.mem_iff_getElem?.mp hz'
      exact ⟨j, List.getElem?_zip_eq_some.mp hj⟩
    have hsnd : (as.zip l).map (·.2) = l := List.map_snd_zip (by omega)
    have hfst : (as.zip l).map (·.1) = as := List.map_fst_zip (by omega)
    have hsort : (zs.map (·.2)).Pairwise (fun e f => SrtO.lexB f e = false) := by
      rw [List.pairwise_map]
      have o1 : out.Pairwise _ := o1
      rw [← ez, List.pairwise_map] at o1
      refine List.Pairwise.imp_of_mem (fun {x y} hx hy h => ?_) o1
      obtain ⟨j, j1, j2⟩ := idx x (pz.mem_iff.mp hx)
      obtain ⟨i, i1, i2⟩ := idx y (pz.mem_iff.mp hy)
      have h' : SrtO.lexB (pairAt h2 (.ref y.1)) (pairAt h2 (.ref x.1)) = false := h
      rw [at_ i _ _ i1 i2, at_ j _ _ j1 j2] at h'
      exact h'
    have kF : ∀ b o, b ≠ h'.objs.size → h2.get? b = some o → (sortedHeap h2 h'.objs.size (as.map Value.ref) out.toArray).get? b = some o := fun b o hb e => (PyProof.Rows.sortedHeap_old hb (Heap.lt_size e)).trans e
    have kS : ∀ b o, s.heap.get? b = some o → (sortedHeap h2 h'.objs.size (as.map Value.ref) out.toArray).get? b = some o := fun b o e => kF b o (ne0 _ _ (hk b o e)) (kb b o e)
    obtain ⟨eF, heF⟩ := PyProof.Rows.sortedHeap_at (vs := as.map Value.ref) (out := out.toArray) hob
    have I1 : Inv X pins σ H { s with heap := sortedHeap h2 h'.objs.size (as.map Value.ref) out.toArray, toks := tk } := I.kept (t' := tk) kS
    have hn0 : H h'.objs.size = none := I.hok.fresh (Nat.le_of_lt hlt)
    have fresh : ∀ z ∈ as.zip l, s.heap.objs.size ≤ z.1 ∧ H z.1 = none := fun z hz => by
      have hm := (List.of_mem_zip (a := z.1) (b := z.2) hz).1
      have h0 : s.heap.objs.size < z.1 := hG.above z.1 hm
      exact ⟨Nat.le_of_lt h0, I.hok.fresh (Nat.le_of_lt h0)⟩
    have neq : ∀ z ∈ as.zip l, z.1 ≠ h'.objs.size := fun z hz => by
      obtain ⟨j, j1, j2⟩ := idx z hz
      obtain ⟨e, t, u, q1, q2⟩ := pr j z.1 j1
      exact ne0 _ _ q2
    have IA := takeU (h' := sortedHeap h2 h'.objs.size (as.map Value.ref) out.toArray) (tk := tk) I (as.zip l) H I1 (by rw [hfst]; exact nd) fun z hz => ⟨(fresh z hz).1, (fresh z hz).2, fun H2 => by
      obtain ⟨j, j1, j2⟩ := idx z hz
      obtain ⟨e, t, u, q1, q2⟩ := pr j z.1 j1
      rw [j2] at q1
      cases q1
      exact ⟨by rw [sizeLine_eq]; show 2 ≤ _; omega, _, .cons ⟨t, rfl⟩ (.cons ⟨u, rfl⟩ .nil), _, kF _ _ (neq z hz) (ka _ _ q2), rfl, 0, rfl⟩⟩
    have updN : ∀ (L : List (Addr × I2)) (H1 : Hp), H1 h'.objs.size = none → (∀ z ∈ L, z.1 ≠ h'.objs.size) → updT H1 L h'.objs.size = none := by
      intro L
      induction L with
      | nil => exact fun H1 h _ => h
      | cons z r ih => exact fun H1 h hz => ih _ (by rw [upd_ne (fun q => hz z List.mem_cons_self q.symm)]; exact h) fun y hy => hz y (List.mem_cons_of_mem _ hy)
    have hlz : (zs.map fun z => V.ref z.1).length ≤ sizeLine := by
      have e := pz.length_eq
      rw [List.length_zip] at e
      rw [List.length_map, sizeLine_eq]
      omega
    have rv : Vals (zs.map fun z => V.ref z.1) out := by
      rw [← ez]
      exact vals_maps (fun z : Addr × I2 => V.ref z.1) (fun z => Value.ref z.1) zs fun _ _ => rfl
    have I3 : Inv X pins σ (upd (updT H (as.zip l)) h'.objs.size (.lst (zs.map fun z => V.ref z.1))) { s with heap := sortedHeap h2 h'.objs.size (as.map Value.ref) out.toArray, toks := tk } :=
      IA.take (h' := sortedHeap h2 h'.objs.size (as.map Value.ref) out.toArray) (t' := tk) (fun b ob _ e => e) (I.fpOk (Nat.le_of_lt hlt) (updN _ _ hn0 neq)) ⟨hlz, out, eF, rv, heF⟩
    exact ⟨.ref h'.objs.size, _, I3, rfl, q _ zs _ (by rw [hfst]; exact nd) (fun z hz => (fresh z hz).2) neq hn0 hsnd pz hsort⟩
end
/-! ### its meaning -/
def ints2 : List (D × D) → Option (List I2)
  | [] => some []
  | (.int a, .int b) :: r => (ints2 r).map ((a, b) :: ·)
  | _ :: _ => none
def sortP (l : List I2) : List I2 := l.mergeSort fun e f => !SrtO.lexB f e
abbrev stD0 (s : I2) : D := .tuple [.int s.1, .int s.2]
def oSortIt : List D → Option D
  | [.dict es] => (ints2 es).bind fun l => if l.length ≤ 1000 then some (.list ((sortP l).map stD0)) else none
  | _ => none
def aSortIt (a : AE) : AE := fun ρ => (a ρ).bind fun d ρ1 => lift (oSortIt [d]) ρ1
theorem sortP_eq {l m : List I2} (hp : m.Perm l) (hs : m.Pairwise (fun e f => SrtO.lexB f e = false)) : m = sortP l := by
  have tot : ∀ a b : I2, (!SrtO.lexB b a || !SrtO.lexB a b) = true := fun a b => by
    cases h1 : SrtO.lexB b a <;> cases h2 : SrtO.lexB a b <;> simp
    rw [SrtO.lexB_iff] at h1 h2
    omega
  have tr : ∀ a b c : I2, (!SrtO.lexB b a) = true → (!SrtO.lexB c b) = true → (!SrtO.lexB c a) = true := fun a b c h1 h2 => by
    rw [Bool.not_eq_true'] at h1 h2 ⊢
    rw [SrtO.lexB_no] at h1 h2 ⊢
    omega
  have h2 : (sortP l).Pairwise (fun e f => SrtO.lexB f e = false) := by
    have := List.pairwise_mergeSort (le := fun e f : I2 => !SrtO.lexB f e) tr tot l
    exact this.imp fun h => by simpa using h
  refine List.Perm.eq_of_pairwise (fun a b _ _ h1 h2 => ?_) hs h2 (hp.trans (List.mergeSort_perm l _).symm)
  rw [SrtO.lexB_no] at h1 h2
  exact Prod.ext (by omega) (by omega)
theorem repK_ints2 {K : Fr} {F : Hp} : ∀ {kvs : List (Key × V)} {es : List (D × D)} {l : List I2}, RepK K F kvs es → ints2 es = some l → kvs = l.map entI
  | _, _, l, .nil, h => by cases h; rfl
  | _, _, l, .cons (k := x) (v := v) (d := d) h r, e => by
    unfold ints2 at e
    split at e
    · rename_i q; cases q
    · rename_i a b r' q
      injection q with q1 q2
      injection q1 with q3 q4
      subst q2
      obtain ⟨l', h1, rfl⟩ := Option.map_eq_some_iff.mp e
      rw [repK_ints2 r h1]
      cases x with
      | inl i =>
        have : PyData.int i = .int a := q3
        cases this
        subst q4
        rw [h.int_inv]; rfl
      | inr x => cases q3
    · cases e
section
variable {g : G} {E : EX}
theorem updT_get : ∀ (L : List (Addr × I2)) (F : Hp) {b : Addr}, (∀ z ∈ L, z.1 ≠ b) → updT F L b = F b
  | [], F, b, _ => rfl
  | z :: r, F, b, h => by
    show updT (upd F z.1 _) r b = F b
    rw [updT_get r _ fun y hy => h y (List.mem_cons_of_mem _ hy), upd_ne fun q => h z List.mem_cons_self q.symm]
theorem updT_ok : ∀ (L : List (Addr × I2)) {s : S}, s.Ok g → (L.map (·.1)).Nodup → (∀ z ∈ L, s.H z.1 = none) →
    (S.mk (updT s.F L) (updT s.H L) s.W s.σ s.ρ).Ok g ∧ Go s ⟨updT s.F L, updT s.H L, s.W, s.σ, s.ρ⟩ ∧ ∀ z ∈ L, updT s.F L z.1 = some (.tup [.int z.2.1, .int z.2.2])
  | [], s, ok, _, _ => ⟨ok, Go.refl s, fun z h => by cases h⟩
  | z :: r, s, ok, hn, h => by
    obtain ⟨ok1, go1⟩ := ok.new (p := z.1) (o := .tup [.int z.2.1, .int z.2.2]) (h z List.mem_cons_self)
    rw [List.map_cons, List.nodup_cons] at hn
    have hne : ∀ y ∈ r, y.1 ≠ z.1 := fun y hy q => hn.1 (by rw [← q]; exact List.mem_map_of_mem hy)
    obtain ⟨ok2, go2, h2⟩ := updT_ok r ok1 hn.2 fun y hy => by
      show upd s.H z.1 _ y.1 = none
      rw [upd_ne (hne y hy)]; exact h y (List.mem_cons_of_mem _ hy)
    refine ⟨ok2, go1.trans go2, fun y hy => ?_⟩
    rcases List.mem_cons.mp hy with rfl | hy
    · show updT (upd s.F y.1 _) r y.1 = _
      rw [updT_get r _ hne, upd_same]
    · exact h2 y hy
theorem se_sortIt {te : TE} {a : AE} (ha : SE g E te a) : SE g E (tCB rSortItK (tCons (tBM0 g.K "dict" rItemsK te) tNil)) (aSortIt a) := fun s Q ok h =>
  ha s _ ok ((Aft.bind h).mono fun d F H W ρ ok1 go1 h1 v rv => by
    obtain ⟨dd, hf, k⟩ := h1.lift
    unfold oSortIt at hf
    split at hf
    · rename_i es e0
      cases e0
      obtain ⟨l, hl, hf⟩ := Option.bind_eq_some_iff.mp hf
      split at hf
      · rename_i c
        cases hf
        cases rv with | dic hF hr =>
        rename_i p0 kvs
        have ek := repK_ints2 hr hl
        subst ek
        have hH : H p0 = some (.dK (l.map entI)) := ok1.ex _ _ hF
        refine ⟨?ty, p0, _, rfl, rfl, .inl hH, fun p hp => ⟨p, p0, l, rfl, upd_same, .inl ?_, c, fun L zs q nd fr ne hq e pz ho => ?_⟩⟩
        case ty => exact .inr (.inr (.inl ⟨rfl, .inl ⟨_, hH⟩⟩))
        · rw [upd_ne (ne_of_none hH hp)]; exact hH
        · obtain ⟨okj, goj⟩ := S.Ok.junk (s := ⟨F, H, W, s.σ, ρ⟩) (p := p) (o := itemsO p p0) ok1 hp
          obtain ⟨ok2, go2, h2⟩ := updT_ok L okj nd fr
          have hq2 : updT (upd H p (itemsO p p0)) L q = none := by rw [updT_get L _ ne]; exact hq
          obtain ⟨ok3, go3⟩ := ok2.new (p := q) (o := .lst (zs.map fun z => V.ref z.1)) hq2
          have e2 : zs.map (·.2) = sortP l := sortP_eq (by rw [← e]; exact pz.map _) ho
          refine k _ _ _ ok3 ((goj.trans go2).trans go3) _ (.lst upd_same ?_)
          rw [← e2, List.map_map]
          have key : ∀ m : List (Addr × I2), (∀ z ∈ m, z ∈ L) → RepL g.K (upd (updT F L) q (.lst (zs.map fun z => V.ref z.1))) (m.map fun z => V.ref z.1) (m.map (stD0 ∘ fun z => z.2)) := by
            intro m
            induction m with
            | nil => exact fun _ => .nil
            | cons z r ih =>
              intro hz
              refine .cons (.tup (sqT_of ?_) (.cons (.int _) (.cons (.int _) .nil))) (ih fun y hy => hz y (List.mem_cons_of_mem _ hy))
              rw [upd_ne (ne z (hz z List.mem_cons_self))]
              exact h2 z (hz z List.mem_cons_self)
          exact key zs fun z hz => pz.mem_iff.mp hz
      · cases hf
    · cases hf)
end
section
variable {X : Cx} {g : G} {E : EX} {K : Fr}
theorem pd_sortIt {o : Expr} {to : TE} {α : AE} {apos cp p pos : Pos} (ho : PD X g E o to α) (hm : X.mg "sorted" = none) (hu : X.A.units + 64 < cLine) (hg : Gl X "sorted" := by rfl) (hc : X.calm = true := by rfl)
    (hbase : attributeBase o "items" X.env (eval o X.env) = eval o X.env := by rfl) (hline : (apos.endLine == cp.line) = true := by rfl)
    (he : starEach [.Call (.Attribute o "items" apos) [] [] cp] X.env = (false, eval (.Call (.Attribute o "items" apos) [] [] cp) X.env) :: starEach [] X.env := by rfl) (hpl : (backTo pos (starEach [] X.env)).any (·.1) = false := by rfl) (hK : X.K = K := by rfl) :
    PD X g E (.Call (.Name "sorted" p) [.Call (.Attribute o "items" apos) [] [] cp] [] pos) (tCB rSortItK (tCons (tBM0 K "dict" rItemsK to) tNil)) (aSortIt α) := by
  subst hK
  exact ⟨pe_callB (cr_sortedItK hc) hg hm bb_sorted (pa_cons (pe_bm0 PySem.F.plainAttrs_dict PySem.F.slot_dict_items PySem.F.type_dict_items mt_itemsK ho.pe hbase hline) pa_nil he) (by decide) (by decide) he hpl, se_sortIt (g := g.at X.K) ho.se⟩
end
def kSortIt (d : D) (ρ : List Sl) : Res D := lift (oSortIt [d]) ρ
theorem e_sortIt {a : AE} {ρ : List Sl} : aSortIt a ρ = (a ρ).bind kSortIt := rfl
/-! xs.count(i) of ints -/
def oCountI : D → D → Option D
  | .list ds, .int i => (dints ds).map fun ns => .int (ns.countP (fun z => z == i) : Nat)
  | _, _ => none
section
variable {X : Cx} {g : G} {E : EX} {K : Fr} {o e : Expr} {to te : TE} {a b : AE} {apos cpos : Pos}
theorem rs_countI : RS g (fun x y H Q => rCntF g.K x [y] H Q) oCountI := RS.sc fun F H x y d1 d2 d Q e r1 r2 hf k => by
  unfold oCountI at hf
  split at hf
  · rename_i ds i
    obtain ⟨ns, h1, rfl⟩ := Option.map_eq_some_iff.mp hf
    rw [dints_eq h1] at r1
    cases r2
    cases r1 with | lst ha hl =>
    rw [RepL.ints hl] at ha
    refine ⟨_, ns.map V.int, .int i, rfl, rfl, sqL_of (e _ _ ha), rfl, ?_, ?_⟩
    · rw [List.all_map]; exact List.all_eq_true.mpr fun _ _ => rfl
    · rw [List.countP_map]; exact k _ (.int _)
  · cases hf
theorem pd_countI (ho : PD X g E o to a) (he : PD X g E e te b) (hbase : attributeBase o "count" X.env (eval o X.env) = eval o X.env := by rfl)
    (hfew : ((backTo cpos (starEach [e] X.env)).all (fun x => !x.1) && (backToKw cpos (keywordEach [] X.env)).all (fun x => x.1.isSome) && decide ([e].length + ([] : List Keyword).length + (if ([] : List Keyword).isEmpty then 0 else 1) < 30)) = true := by rfl)
    (hline : (apos.endLine == cpos.line) = true := by rfl) (hs : starEach [e] X.env = (false, eval e X.env) :: starEach [] X.env := by rfl) (hplain : (backTo cpos (starEach [] X.env)).any (·.1) = false := by rfl) (hK : X.K = K := by rfl) :
    PD X g E (.Call (.Attribute o "count" apos) [e] [] cpos) (tBM K "list" (rCntF K) to (tCons te tNil)) (aMtL oCountI a b) := by
  subst hK
  exact ⟨pe_bm PySem.F.plainAttrs_list PySem.F.slot_list_count PySem.F.type_list_count mt_countF ho.pe (pa_cons he.pe pa_nil hs) hbase hfew hline hs hplain, se_mtL (g := g.at X.K) rs_countI ho.se he.se⟩
end
theorem oCountI_il {ns : List Int} {i : Int} : oCountI (il ns) (.int i) = some (.int (ns.countP (fun z => z == i) : Nat)) := by
  show (dints _).map _ = _
  rw [dints_map]; rfl
end DL

/-! d.keys(), d.values() within sorted(..), list(..); range(i, j, -1); x = [..] * n to be built on; {} -/
namespace DL
open PySem PySem.Spec PyProof.Rows L2 L2.DX
def keysO (p d : Addr) : HO := .ext fun h => PySem.W.KdlKeysView h p d
def valsO (p d : Addr) : HO := .ext fun h => h.IsValuesView p d
theorem keysO_ok {P : Program} {w : World} {H : Hp} {h : Heap} {p d : Addr} (e : h.get? p = some { cls := .type "dict_keys", data := .fields #[.ref d] }) : ObjOk P w H h p (keysO p d) :=
  ⟨⟨_, e, rfl, rfl⟩, ⟨_, e⟩, fun h1 h2 x k => let ⟨o, ho, r⟩ := x; ⟨o, k o ho, r⟩⟩
theorem valsO_ok {P : Program} {w : World} {H : Hp} {h : Heap} {p d : Addr} (e : h.get? p = some { cls := .type "dict_values", data := .fields #[.ref d] }) : ObjOk P w H h p (valsO p d) :=
  ⟨⟨_, e, rfl, rfl⟩, ⟨_, e⟩, fun h1 h2 x k => let ⟨o, ho, r⟩ := x; ⟨o, k o ho, r⟩⟩
def rViewK (ob : Addr → Addr → HO) : V → List V → Hp → VK → Prop := fun x xs H Q => ∃ (a : Addr) (kvs : List (Key × V)), x = .ref a ∧ xs = [] ∧ Rd H a (.dK kvs) ∧ ∀ p, H p = none → Q (.ref p) (upd H p (ob p a))
section
variable {X : Cx}
theorem mt_keysK : MtR X "dict.keys" (rViewK keysO) := by
  intro pins s σ H x xs v us Q I rx rxs h
  obtain ⟨a, kvs, rfl, rfl, ha, q⟩ := h
  cases rx
  cases rxs
  obtain ⟨z, hd, vs, rel, dd⟩ := dk_rd I.hok ha
  refine call_meetsIn PySem.F.slot_dict_keys dd.typeIs PySem.F.entry_dict_keys (PySem.F.args_dict_keys_1 _) (PySem.W.kdl_meets_keys (mixKind X.prog X.w) a hd) ⟨⟨vs, dd⟩, ?_⟩
  have hf : H s.heap.objs.size = none := I.hok.fresh (Nat.le_refl _)
  exact ⟨.ref s.heap.objs.size, upd H s.heap.objs.size (keysO s.heap.objs.size a), I.laid (t' := s.toks) (fun b u e => Heap.get?_push_of_some _ e) (Nat.le_refl _) (keysO_ok (Heap.get?_push_size _ rfl)), rfl, q _ hf⟩
theorem mt_valsK : MtR X "dict.values" (rViewK valsO) := by
  intro pins s σ H x xs v us Q I rx rxs h
  obtain ⟨a, kvs, rfl, rfl, ha, q⟩ := h
  cases rx
  cases rxs
  obtain ⟨z, hd, vs, rel, dd⟩ := dk_rd I.hok ha
  refine call_meetsIn PySem.F.slot_dict_values dd.typeIs PySem.F.entry_dict_values (PySem.F.args_dict_values_1 _) (meets_dict_values (mixKind X.prog X.w) a hd) ⟨⟨vs, dd⟩, ?_⟩
  have hf : H s.heap.objs.size = none := I.hok.fresh (Nat.le_refl _)
  exact ⟨.ref s.heap.objs.size, upd H s.heap.objs.size (valsO s.heap.objs.size a), I.laid (t' := s.toks) (fun b u e => Heap.get?_push_of_some _ e) (Nat.le_refl _) (valsO_ok (Heap.get?_push_size _ rfl)), rfl, q _ hf⟩
def rSortKeys (b : Bool) : List V → Hp → VK → Prop := fun xs H Q => ∃ (p a : Addr) (kvs : List (Key × V)) (ks : List Int), xs = [.ref p] ∧ H p = some (keysO p a) ∧ Rd H a (.dK kvs) ∧ kvs.map (·.1) = ks.map Sum.inl ∧
    ∀ (ys : List Int) (p : Addr), ys.Perm ks → OrdB b ys → H p = none → Q (.ref p) (upd H p (.lst (ys.map V.int)))
theorem keys_are {P : Program} {w : World} {vs : List (Key × Value)} {ks : List Int} {acc : Array Value} (hkeys : vs.map (·.1) = ks.map Sum.inl) (hal : acc.toList.length = ks.length)
    (h : ∀ (j : Nat) (v : Value), acc.toList[j]? = some v → ∃ k x, vs[j]? = some (k, x) ∧ (mixKind P w).is k v = true) : IntsAre acc.toList ks := ints_each hal fun j v e => by
  obtain ⟨k, x, e1, e2⟩ := h j v e
  have e3 : (vs.map (·.1))[j]? = some k := by rw [List.getElem?_map, e1]; rfl
  rw [hkeys, List.getElem?_map] at e3
  cases e4 : ks[j]? with
  | none => rw [e4] at e3; cases e3
  | some y =>
    rw [e4] at e3
    have e5 : Sum.inl y = k := Option.some.inj e3
    subst e5
    rcases keyIs_shape (show L2.keyIs (Sum.inl y) v = true from e2) with ⟨i, t, ek, ev⟩ | ⟨z, t, ek, ev⟩
    · cases ek
      exact ⟨y, t, rfl, ev⟩
    · cases ek
theorem cr_sortKeys (hcalm : X.calm = true) : CallR X (.builtin "sorted") (rSortKeys false) := by
  intro pins s σ H xs us Q I r q
  obtain ⟨p, a, kvs, ks, rfl, hp, hd, hks, q⟩ := q
  obtain rfl := Vals.ref1 r
  have view : PySem.W.KdlKeysView s.heap p a := (show ObjOk X.prog X.w H s.heap p (keysO p a) from I.hok p _ hp).1
  obtain ⟨z, lo, vs, rel, dd⟩ := dk_rd I.hok hd
  obtain ⟨ep, hat⟩ := dd.dictAt
  have hkeys : vs.map (·.1) = ks.map Sum.inl := rel.keys.symm.trans hks
  have hl : vs.length = ks.length := by
    have e := congrArg List.length hkeys
    rw [List.length_map, List.length_map] at e
    exact e
  have h16 : vs.length ≤ sizeLine := by rw [← rel.length]; exact z
  refine Calls.call_function_entry PyProof.Rows.kind_sorted PyProof.Rows.plain_sorted PyProof.Rows.entry_sorted (PyProof.Rows.args_sorted1 _) ?_
  unfold Builtin.«sorted»
  refine wpAny_bind (m := checkCount "sorted" 1 1 _) (wpAny_pure ?_)
  refine wpAny_bind (PySem.W.kdu_collect (A := X.A.in1) (PySem.W.kdl_keys (knd := mixKind X.prog X.w) (kvs := vs) (ep := ep)) (I.ok.hd hcalm) ⟨view, hat⟩ h16 fun h' tk acc hk hacc => ?_)
  have hal : acc.toList.length = ks.length := by rw [Array.length_toList, hacc.1, hl]
  have hS : IntsAre acc.toList ks := keys_are hkeys hal fun j v e => hacc.2 j v (by rw [← Array.getElem?_toList]; exact e)
  have I1 : Inv X pins σ H { s with heap := h', toks := tk } := I.kept hk
  have haz : acc.toList.length ≤ sizeLine := by rw [hal, ← hl]; exact h16
  refine wpAny_bind (wpAny_newList ?_ haz)
  have hoL : (h'.push (seqObj "list" acc.toList.toArray 0)).get? h'.objs.size = some (seqObj "list" acc.toList.toArray 0) := Heap.get?_push_size _ rfl
  show wpAny _ _ _ _ _ { s with heap := h'.push (seqObj "list" acc.toList.toArray 0), toks := tk }
  refine wpAny_bind (wpAny_holding (wpAny_call_entry PyProof.Rows.slot_list_sort ⟨_, hoL, rfl⟩ PyProof.Rows.entry_list_sort
    (SrtO.list_sort_ord (s := { s with heap := h'.push (seqObj "list" acc.toList.toArray 0), toks := tk }) SrtO.swo_int hoL haz (fun h2 => SrtO.ints_sortable hS h2) fun out g1 g2 => ⟨_, rfl, ?_⟩) (PyProof.Rows.args_list_sort _)))
  obtain ⟨k1, k2, k3⟩ := SrtO.ints_out hS g1 g2
  obtain ⟨e', he'⟩ := PyProof.Rows.sortedHeap_at (vs := acc.toList) (out := out.toArray) hoL
  have hlen : ((out.map SrtO.iv).map V.int).length ≤ sizeLine := by
    rw [List.length_map, k2.length_eq, ← hal]; exact haz
  refine wpAny_pure ⟨_, rfl, .ref h'.objs.size, upd H h'.objs.size (.lst ((out.map SrtO.iv).map V.int)), I1.laid (t' := tk) (fun b u e => ?_) (Nat.le_refl _)
    (show ObjOk X.prog X.w _ _ _ (.lst ((out.map SrtO.iv).map V.int)) from ⟨hlen, out, e', vals_of_ints k1, he'⟩), rfl, q _ _ k2 k3 (I1.hok.fresh (Nat.le_refl _))⟩
  have hb : b < h'.objs.size := Heap.lt_size e
  rw [PyProof.Rows.sortedHeap_old (Nat.ne_of_lt hb) (by rw [size_push']; exact Nat.lt_succ_of_lt hb)]
  exact Heap.get?_push_of_some _ e
theorem cr_sortKeysR (hcalm : X.calm = true) : CallRK X (.builtin "sorted") [Str.ofString "reverse"] (fun xs zs H Q => zs = [.bl true] ∧ rSortKeys true xs H Q) := by
  intro pins s σ H xs zs us ws Q I r rz q
  obtain ⟨rfl, p, a, kvs, ks, rfl, hp, hd, hks, q⟩ := q
  obtain rfl := Vals.ref1 r
  obtain ⟨w1, rfl, e1⟩ := vals1 rz
  obtain rfl : w1 = Value.bool true := e1
  have view : PySem.W.KdlKeysView s.heap p a := (show ObjOk X.prog X.w H s.heap p (keysO p a) from I.hok p _ hp).1
  obtain ⟨z, lo, vs, rel, dd⟩ := dk_rd I.hok hd
  obtain ⟨ep, hat⟩ := dd.dictAt
  have hkeys : vs.map (·.1) = ks.map Sum.inl := rel.keys.symm.trans hks
  have hl : vs.length = ks.length := by
    have e := congrArg List.length hkeys
    rw [List.length_map, List.length_map] at e
    exact e
  have h16 : vs.length ≤ sizeLine := by rw [← rel.length]; exact z
  refine call_function_entry_kw PyProof.Rows.kind_sorted PyProof.Rows.plain_sorted PyProof.Rows.entry_sorted (PyProof.Rows.args_sorted_rev _ _) ?_
  unfold Builtin.«sorted»
  refine wpAny_bind (m := checkCount "sorted" 1 1 _) (wpAny_pure ?_)
  refine wpAny_bind (PySem.W.kdu_collect (A := X.A.in1) (PySem.W.kdl_keys (knd := mixKind X.prog X.w) (kvs := vs) (ep := ep)) (I.ok.hd hcalm) ⟨view, hat⟩ h16 fun h' tk acc hk hacc => ?_)
  have hal : acc.toList.length = ks.length := by rw [Array.length_toList, hacc.1, hl]
  have hS : IntsAre acc.toList ks := keys_are hkeys hal fun j v e => hacc.2 j v (by rw [← Array.getElem?_toList]; exact e)
  have I1 : Inv X pins σ H { s with heap := h', toks := tk } := I.kept hk
  have haz : acc.toList.length ≤ sizeLine := by rw [hal, ← hl]; exact h16
  refine wpAny_bind (wpAny_newList ?_ haz)
  have hoL : (h'.push (seqObj "list" acc.toList.toArray 0)).get? h'.objs.size = some (seqObj "list" acc.toList.toArray 0) := Heap.get?_push_size _ rfl
  show wpAny _ _ _ _ _ { s with heap := h'.push (seqObj "list" acc.toList.toArray 0), toks := tk }
  refine wpAny_bind (wpAny_holding (wpAny_call_entry_kw PyProof.Rows.slot_list_sort ⟨_, hoL, rfl⟩ PyProof.Rows.entry_list_sort
    (SrtR.list_sort_ordR (b := true) (s := { s with heap := h'.push (seqObj "list" acc.toList.toArray 0), toks := tk }) SrtO.swo_int hoL haz (fun h2 => SrtO.ints_sortable hS h2) fun out g1 g2 => ⟨_, rfl, ?_⟩) (PyProof.Rows.args_list_sort_rev _ _)))
  obtain ⟨ys, k1, k2, k3⟩ := SrtR.ints_outR hS g1 g2
  obtain ⟨e', he'⟩ := PyProof.Rows.sortedHeap_at (vs := acc.toList) (out := out.toArray.reverse) hoL
  have hlen : (ys.map V.int).length ≤ sizeLine := by
    rw [List.length_map, k2.length_eq, ← hal]; exact haz
  refine wpAny_pure ⟨_, rfl, .ref h'.objs.size, upd H h'.objs.size (.lst (ys.map V.int)), I1.laid (t' := tk) (fun b u e => ?_) (Nat.le_refl _)
    (show ObjOk X.prog X.w _ _ _ (.lst (ys.map V.int)) from ⟨hlen, (out.toArray.reverse).toList, e', vals_of_ints k1, by rw [Array.toArray_toList]; exact he'⟩), rfl, q _ _ k2 k3 (I1.hok.fresh (Nat.le_refl _))⟩
  have hb : b < h'.objs.size := Heap.lt_size e
  show Heap.get? (sortedHeap _ h'.objs.size acc.toList out.toArray.reverse) b = some u
  rw [PyProof.Rows.sortedHeap_old (Nat.ne_of_lt hb) (by rw [size_push']; exact Nat.lt_succ_of_lt hb)]
  exact Heap.get?_push_of_some _ e
def rListVals : List V → Hp → VK → Prop := fun xs H Q => ∃ (p a : Addr) (kvs : List (Key × V)), xs = [.ref p] ∧ H p = some (valsO p a) ∧ Rd H a (.dK kvs) ∧
    ∀ (p : Addr), H p = none → Q (.ref p) (upd H p (.lst (kvs.map (·.2))))
theorem vals_each2 : ∀ {xs : List V} {us : List Value}, us.length = xs.length → (∀ (j : Nat) (u : Value), us[j]? = some u → ∃ x, xs[j]? = some x ∧ RelV x u) → Vals xs us
  | [], [], _, _ => .nil
  | x :: xs, u :: us, hl, h => by
    obtain ⟨x', e1, e2⟩ := h 0 u rfl
    have : x = x' := Option.some.inj e1
    subst this
    exact .cons e2 (vals_each2 (by simpa using hl) fun j v e => by
      obtain ⟨y, a, b⟩ := h (j + 1) v (by simpa using e)
      exact ⟨y, by simpa using a, b⟩)
  | [], _ :: _, hl, _ => by simp at hl
  | _ :: _, [], hl, _ => by simp at hl
theorem cr_listVals (hcalm : X.calm = true) : CallR X (.type "list") rListVals := by
  intro pins s σ H xs us Q I r q
  obtain ⟨p, a, kvs, rfl, hp, hd, q⟩ := q
  obtain rfl := Vals.ref1 r
  have view : s.heap.IsValuesView p a := (show ObjOk X.prog X.w H s.heap p (valsO p a) from I.hok p _ hp).1
  obtain ⟨z, lo, vs, rel, dd⟩ := dk_rd I.hok hd
  obtain ⟨ep, hat⟩ := dd.dictAt
  have h16 : vs.length ≤ sizeLine := by rw [← rel.length]; exact z
  refine PySem.W.kdl_call (PySem.W.kdl_values (knd := mixKind X.prog X.w) (kvs := vs) (ep := ep)) (I.ok.hd hcalm) ⟨view, hat⟩ h16 fun h' tk acc c hk hD hacc => ?_
  have rv : Vals (kvs.map (·.2)) acc.toList := vals_each2 (by rw [Array.length_toList, hacc.1, List.length_map, rel.length]) fun j u e => by
    obtain ⟨k, hj⟩ := hacc.2 j u (by rw [← Array.getElem?_toList]; exact e)
    obtain ⟨e0, he0, r1, r2⟩ := pget rel hj
    exact ⟨e0.2, by rw [List.getElem?_map, he0]; rfl, r2⟩
  exact ⟨.ref s.heap.objs.size, upd H s.heap.objs.size (.lst (kvs.map (·.2))), I.laid (t' := tk) hk (Nat.le_refl _) ⟨by rw [List.length_map]; exact z, acc.toList, c, rv, by rw [Array.toArray_toList]; exact hD⟩, rfl, q _ (I.hok.fresh (Nat.le_refl _))⟩
end
/-! ### their meanings -/
def keysI : List (D × D) → Option (List Int)
  | [] => some []
  | (.int a, _) :: r => (keysI r).map (a :: ·)
  | _ :: _ => none
theorem repK_keysI {K : Fr} {F : Hp} : ∀ {kvs : List (Key × V)} {es : List (D × D)} {ks : List Int}, RepK K F kvs es → keysI es = some ks → kvs.map (·.1) = ks.map Sum.inl
  | _, _, ks, .nil, h => by cases h; rfl
  | _, _, ks, .cons (k := x) (v := v) (d := d) h r, e => by
    unfold keysI at e
    split at e
    · rename_i q; cases q
    · rename_i a d' r' q
      injection q with q1 q2
      injection q1 with q3 q4
      subst q2
      obtain ⟨l', h1, rfl⟩ := Option.map_eq_some_iff.mp e
      rw [List.map_cons, List.map_cons, repK_keysI r h1]
      cases x with
      | inl i =>
        have : PyData.int i = .int a := q3
        cases this; rfl
      | inr x => cases q3
    · cases e
theorem repK_vals {K : Fr} {F : Hp} : ∀ {kvs : List (Key × V)} {es : List (D × D)}, RepK K F kvs es → RepL K F (kvs.map (·.2)) (es.map (·.2))
  | _, _, .nil => .nil
  | _, _, .cons h r => .cons h (repK_vals r)
def oSortKeys (b : Bool) : List D → Option D
  | [.dict es] => (keysI es).map fun ks => .list ((if b then (sortI ks).reverse else sortI ks).map .int)
  | _ => none
theorem ordB_eq {b : Bool} {ks ys : List Int} (hp : ys.Perm ks) (ho : OrdB b ys) : ys = if b then (sortI ks).reverse else sortI ks := by
  cases b with
  | false => exact PySem.W.os_sorted_mergeSort hp ho
  | true =>
    have ho : ys.Pairwise (· ≥ ·) := ho
    have h : ys.reverse = sortI ks := PySem.W.os_sorted_mergeSort ((List.reverse_perm ys).trans hp) (by rw [List.pairwise_reverse]; exact ho)
    show ys = (sortI ks).reverse
    rw [← h, List.reverse_reverse]
def oListVals : List D → Option D
  | [.dict es] => some (.list (es.map (·.2)))
  | _ => none
def aView (f : List D → Option D) (a : AE) : AE := fun ρ => (a ρ).bind fun d ρ1 => lift (f [d]) ρ1
section
variable {g : G} {E : EX}
theorem view_go {s : S} {d : D} {v : V} (ok : s.Ok g) (rv : Rep g.K s.F v d) {es : List (D × D)} (e : d = .dict es) : ∃ a kvs, v = .ref a ∧ s.H a = some (.dK kvs) ∧ s.F a = some (.dK kvs) ∧ RepK g.K s.F kvs es := by
  subst e
  cases rv with | dic hF hr => exact ⟨_, _, rfl, ok.ex _ _ hF, hF, hr⟩
theorem se_sortKeys {te : TE} {a : AE} (ha : SE g E te a) : SE g E (tCB (rSortKeys false) (tCons (tBM0 g.K "dict" (rViewK keysO) te) tNil)) (aView (oSortKeys false) a) := fun s Q ok h =>
  ha s _ ok ((Aft.bind h).mono fun d F H W ρ ok1 go1 h1 v rv => by
    obtain ⟨dd, hf, k⟩ := h1.lift
    unfold oSortKeys at hf
    split at hf
    · rename_i es e0
      cases e0
      obtain ⟨ks, hk, rfl⟩ := Option.map_eq_some_iff.mp hf
      obtain ⟨p0, kvs, rfl, hH, hF, hr⟩ := view_go (s := ⟨F, H, W, s.σ, ρ⟩) ok1 rv rfl
      refine ⟨.inr (.inr (.inl ⟨rfl, .inl ⟨_, hH⟩⟩)), p0, kvs, rfl, rfl, .inl hH, fun p hp => ⟨p, p0, kvs, ks, rfl, upd_same, .inl ?_, repK_keysI hr hk, fun ys q hpm hor hq => ?_⟩⟩
      · rw [upd_ne (ne_of_none hH hp)]; exact hH
      · obtain ⟨okj, goj⟩ := S.Ok.junk (s := ⟨F, H, W, s.σ, ρ⟩) (p := p) (o := keysO p p0) ok1 hp
        rw [ordB_eq hpm hor] at *
        refine new_lst okj (RepL.of_ints _) (fun v F' H' ok' go' r' => k F' H' W ok' (goj.trans go') v r') q hq
    · cases hf)
theorem se_sortKeysR {te : TE} {a : AE} {tk : TA} (htk : ∀ σ H (Q : List V → Hp → Prop), Q [.bl true] H → tk σ H Q) (ha : SE g E te a) : SE g E (tCKw (fun xs zs H Q => zs = [.bl true] ∧ rSortKeys true xs H Q) (tCons (tBM0 g.K "dict" (rViewK keysO) te) tNil) tk) (aView (oSortKeys true) a) := fun s Q ok h =>
  ha s _ ok ((Aft.bind h).mono fun d F H W ρ ok1 go1 h1 v rv => by
    obtain ⟨dd, hf, k⟩ := h1.lift
    unfold oSortKeys at hf
    split at hf
    · rename_i es e0
      cases e0
      obtain ⟨ks, hk, rfl⟩ := Option.map_eq_some_iff.mp hf
      obtain ⟨p0, kvs, rfl, hH, hF, hr⟩ := view_go (s := ⟨F, H, W, s.σ, ρ⟩) ok1 rv rfl
      refine ⟨.inr (.inr (.inl ⟨rfl, .inl ⟨_, hH⟩⟩)), p0, kvs, rfl, rfl, .inl hH, fun p hp => htk _ _ _ ⟨rfl, p, p0, kvs, ks, rfl, upd_same, .inl ?_, repK_keysI hr hk, fun ys q hpm hor hq => ?_⟩⟩
      · rw [upd_ne (ne_of_none hH hp)]; exact hH
      · obtain ⟨okj, goj⟩ := S.Ok.junk (s := ⟨F, H, W, s.σ, ρ⟩) (p := p) (o := keysO p p0) ok1 hp
        rw [ordB_eq hpm hor] at *
        refine new_lst okj (RepL.of_ints _) (fun v F' H' ok' go' r' => k F' H' W ok' (goj.trans go') v r') q hq
    · cases hf)
theorem se_listVals {te : TE} {a : AE} (ha : SE g E te a) : SE g E (tCB rListVals (tCons (tBM0 g.K "dict" (rViewK valsO) te) tNil)) (aView oListVals a) := fun s Q ok h =>
  ha s _ ok ((Aft.bind h).mono fun d F H W ρ ok1 go1 h1 v rv => by
    obtain ⟨dd, hf, k⟩ := h1.lift
    unfold oListVals at hf
    split at hf
    · rename_i es e0
      cases e0
      cases hf
      obtain ⟨p0, kvs, rfl, hH, hF, hr⟩ := view_go (s := ⟨F, H, W, s.σ, ρ⟩) ok1 rv rfl
      refine ⟨.inr (.inr (.inl ⟨rfl, .inl ⟨_, hH⟩⟩)), p0, kvs, rfl, rfl, .inl hH, fun p hp => ⟨p, p0, kvs, rfl, upd_same, .inl ?_, fun q hq => ?_⟩⟩
      · rw [upd_ne (ne_of_none hH hp)]; exact hH
      · obtain ⟨okj, goj⟩ := S.Ok.junk (s := ⟨F, H, W, s.σ, ρ⟩) (p := p) (o := valsO p p0) ok1 hp
        exact new_lst okj (repK_vals hr) (fun v F' H' ok' go' r' => k F' H' W ok' (goj.trans go') v r') q hq
    · cases hf)
/-! {} -/
def aDict0 : AE := fun ρ => .ok (.dict []) ρ
theorem se_dict0 : SE g E tDNewK aDict0 := fun s Q ok h p hp => by
  obtain ⟨ok', go⟩ := ok.new (o := .dK []) hp
  exact h _ _ _ ok' go _ (.dic upd_same .nil)
/-! [..] * n, to be built on -/
def mulB (ds : List D) (d2 : D) (ρ : List Sl) : Res (List D) := match d2 with
  | .int k => if k < 2 ^ 62 ∧ -(2 ^ 62) ≤ k ∧ ds.length * k.toNat ≤ sizeLine then .ok (List.replicate k.toNat ds).flatten ρ else .bad
  | _ => .bad
def mulA (b : AE) (d1 : D) (ρ : List Sl) : Res (List D) := match d1 with
  | .list ds => (b ρ).bind (mulB ds)
  | _ => .bad
def aMulF (a b : AE) : AF := fun ρ => (a ρ).bind (mulA b)
theorem sf_mul {ta tb : TE} {a b : AE} (ha : SE g E ta a) (hb : SE g E tb b) : SFr g E (tOp rMulAny ta tb) (aMulF a b) := fun s Q ok h =>
  ha s _ ok (Aft.mono (AftF.bind (show AftF g E s ((a s.ρ).bind (mulA b)) _ from h)) fun d1 F1 H1 W1 ρ1 ok1 go1 h1 v1 r1 => by
    unfold mulA at h1
    split at h1
    · rename_i ds
      refine hb ⟨F1, H1, W1, s.σ, ρ1⟩ _ ok1 (Aft.mono (AftF.bind h1) fun d2 F2 H2 W2 ρ2 ok2 go2 h2 v2 r2 => ?_)
      unfold mulB at h2
      split at h2
      · rename_i k
        split at h2
        · rename_i c
          cases r2
          have r1 := r1.mono go2.f
          cases r1 with | lst hA rA =>
          refine .inr ⟨_, _, _, rfl, rfl, ok2.ex _ _ hA, by omega, by omega, by rw [rA.length]; exact c.2.2, fun p hp => ?_⟩
          obtain ⟨okj, goj⟩ := S.Ok.junk (s := ⟨F2, H2, W2, s.σ, ρ2⟩) (p := p) (o := .lst (List.replicate k.toNat _).flatten) ok2 hp
          exact h2 F2 _ W2 p _ okj goj (.inr hp) upd_same (ok2.ex.free hp) (fun q => (ok2.fw p q).2 hp) (rA.rep _)
        · exact h2.elim
      · exact h2.elim
    · exact h1.elim)
/-! range(i, j, -1) -/
def rangeDn (i : Int) (n : Nat) : List D := (List.range n).map fun (k : Nat) => .int (i - k)
def aRngD (a : AD) : AI := fun ρ => (a ρ).bind fun ds ρ1 => match ds with
  | [.int i, .int j, .int c] => if inR i = true ∧ inR j = true ∧ c = -1 then .ok (rangeDn i (i - j).toNat) ρ1 else .bad
  | _ => .bad
theorem it_rngD {K : Fr} {F : Hp} (i0 : Int) (n : Nat) : ItOk K F (Itc i0 (-1) n) (rangeDn i0 n) := fun i F1 H1 e e1 => by
  have hl : (rangeDn i0 n).length = n := by simp [rangeDn]
  rw [hl]
  refine ⟨fun hi => hi, fun hi => Nat.le_of_eq hi, fun x H2 hy d hd => .inl ⟨hy.1, ?_⟩⟩
  have hi : i < n := by
    have := (List.getElem?_eq_some_iff.mp hd).1
    rwa [hl] at this
  have e : d = .int (i0 - i) := by
    unfold rangeDn at hd
    rw [List.getElem?_map, List.getElem?_range hi] at hd
    exact (Option.some.inj hd).symm
  rw [hy.2, e, show i0 + (i : Int) * -1 = i0 - i by omega]
  exact .int _
theorem si_rngD {ta : TA} {a : AD} (ha : SD g E ta a) : SI g E (iRng3 ta) (aRngD a) := fun s R ok h =>
  ha s _ ok ((Aft.bind h).mono fun ds F1 H1 W1 ρ1 ok1 go1 h1 vs rs => by
    dsimp only at h1
    split at h1
    · split at h1
      · rename_i c
        obtain ⟨c1, c2, rfl⟩ := c
        cases rs with | cons r1 rs =>
        cases rs with | cons r2 rs =>
        cases rs with | cons r3 rs =>
        cases rs; cases r1; cases r2; cases r3
        exact ⟨_, _, _, _, rfl, RgC.neg (inR_of c1).1 (inR_of c1).2 (inR_of c2).1 (inR_of c2).2, Aft.here (s := ⟨F1, H1, W1, s.σ, ρ1⟩) ok1 h1 _ (it_rngD _ _)⟩
      · exact h1.elim
    · exact h1.elim)
end
section
variable {X : Cx} {g : G} {E : EX} {K : Fr} {o : Expr} {to : TE} {α : AE} {apos cp p pos : Pos}
theorem pd_sortKeys (ho : PD X g E o to α) (hm : X.mg "sorted" = none) (hg : Gl X "sorted" := by rfl) (hc : X.calm = true := by rfl)
    (hbase : attributeBase o "keys" X.env (eval o X.env) = eval o X.env := by rfl) (hline : (apos.endLine == cp.line) = true := by rfl)
    (he : starEach [.Call (.Attribute o "keys" apos) [] [] cp] X.env = (false, eval (.Call (.Attribute o "keys" apos) [] [] cp) X.env) :: starEach [] X.env := by rfl) (hpl : (backTo pos (starEach [] X.env)).any (·.1) = false := by rfl) (hK : X.K = K := by rfl) :
    PD X g E (.Call (.Name "sorted" p) [.Call (.Attribute o "keys" apos) [] [] cp] [] pos) (tCB (rSortKeys false) (tCons (tBM0 K "dict" (rViewK keysO) to) tNil)) (aView (oSortKeys false) α) := by
  subst hK
  exact ⟨pe_callB (cr_sortKeys hc) hg hm bb_sorted (pa_cons (pe_bm0 PySem.F.plainAttrs_dict PySem.F.slot_dict_keys PySem.F.type_dict_keys mt_keysK ho.pe hbase hline) pa_nil he) (by decide) (by decide) he hpl, se_sortKeys (g := g.at X.K) ho.se⟩
theorem pd_listVals (ho : PD X g E o to α) (hm : X.mg "list" = none) (hg : Gl X "list" := by rfl) (hc : X.calm = true := by rfl)
    (hbase : attributeBase o "values" X.env (eval o X.env) = eval o X.env := by rfl) (hline : (apos.endLine == cp.line) = true := by rfl)
    (he : starEach [.Call (.Attribute o "values" apos) [] [] cp] X.env = (false, eval (.Call (.Attribute o "values" apos) [] [] cp) X.env) :: starEach [] X.env := by rfl) (hpl : (backTo pos (starEach [] X.env)).any (·.1) = false := by rfl) (hK : X.K = K := by rfl) :
    PD X g E (.Call (.Name "list" p) [.Call (.Attribute o "values" apos) [] [] cp] [] pos) (tCB rListVals (tCons (tBM0 K "dict" (rViewK valsO) to) tNil)) (aView oListVals α) := by
  subst hK
  exact ⟨pe_callTy (cr_listVals hc) hg hm bb_list (pa_cons (pe_bm0 PySem.F.plainAttrs_dict PySem.F.slot_dict_values PySem.F.type_dict_values mt_valsK ho.pe hbase hline) pa_nil he) (by decide) (by decide) he hpl, se_listVals (g := g.at X.K) ho.se⟩
theorem pd_dict0 : PD X g E (.Dict [] [] pos) tDNewK aDict0 := ⟨pe_dnewK, se_dict0⟩
theorem pid_rngD {tg a b c : Expr} {ta : TA} {q : AD} (hm : X.mg "range" = none) (ha : PDD X g E [a, b, c] ta q) (hg : Gl X "range" := by rfl)
    (hs : starEach [a, b, c] X.env = (false, eval a X.env) :: starEach [b, c] X.env := by rfl) (hpl : (backTo pos (starEach [b, c] X.env)).any (·.1) = false := by rfl) :
    PID X g E tg (.Call (.Name "range" p) [a, b, c] [] pos) (iRng3 ta) (aRngD q) := ⟨pi_range3 hg hm ha.pa hs hpl, si_rngD ha.sd⟩
theorem psd_ownMul {i : Nat} {y : Str} {px pos pos2 : Pos} {a b : Expr} {ta tb : TE} {α β : AE} (ha : PD X g E a ta α) (hb : PD X g E b tb β) (hN : X.N.Nodup)
    (hi : X.N[i]? = some y := by rfl) (hxl : Loc X.env.scope y := by first | exact .inl rfl | exact .inr rfl) (hf : X.fn y = true ∨ X.env.scope.names.lookup y = some .local := by first | exact .inl rfl | exact .inr rfl | assumption)
    (hs : swapsWithSole [.Name y px] (.BinOp a .Mult b pos2) pos.line X.env = pure false := by rfl) (hw : swappedStores [.Name y px] (.BinOp a .Mult b pos2) X.env = pure none := by rfl) :
    PSD X g E (.Assign [.Name y px] (.BinOp a .Mult b pos2) pos) (tAsg (tOp rMulAny ta tb) (gName i)) (asOwnF i (aMulF α β)) :=
  ⟨ps_asg (pe_op op_mulAny ha.pe hb.pe) (pg_name hN hi hxl hf) hs hw, ss_ownF (sf_mul ha.se hb.se)⟩
end
section
variable {X : Cx} {g : G} {E : EX} {K : Fr} {o : Expr} {to : TE} {α : AE} {apos cp p pos kp1 kp2 : Pos} {JB}
theorem pd_sortKeysR (ho : PD X g E o to α) (hm : X.mg "sorted" = none) (hg : Gl X "sorted" := by rfl) (hc : X.calm = true := by rfl)
    (hbase : attributeBase o "keys" X.env (eval o X.env) = eval o X.env := by rfl) (hline : (apos.endLine == cp.line) = true := by rfl)
    (he0 : starEach [.Call (.Attribute o "keys" apos) [] [] cp] X.env = (false, eval (.Call (.Attribute o "keys" apos) [] [] cp) X.env) :: starEach [] X.env := by rfl)
    (he : backTo pos (starEach [.Call (.Attribute o "keys" apos) [] [] cp] X.env) = (false, eval (.Call (.Attribute o "keys" apos) [] [] cp) X.env) :: backTo pos (starEach [] X.env) := by rfl) (hpl : (backTo pos (starEach [.Call (.Attribute o "keys" apos) [] [] cp] X.env)).any (·.1) = false := by rfl)
    (hall : (backToKw pos (keywordEach [⟨some "reverse", .Constant (.bool true) JB kp1, kp2⟩] X.env)).all (·.1.isSome) = true := by rfl) (hnone : (backToKw pos (keywordEach [⟨some "reverse", .Constant (.bool true) JB kp1, kp2⟩] X.env)).any (·.1.isNone) = false := by rfl)
    (hks : (backToKw pos (keywordEach [⟨some "reverse", .Constant (.bool true) JB kp1, kp2⟩] X.env)).filterMap (·.1) = [Str.ofString "reverse"] := by rfl) (hK : X.K = K := by rfl) :
    PD X g E (.Call (.Name "sorted" p) [.Call (.Attribute o "keys" apos) [] [] cp] [⟨some "reverse", .Constant (.bool true) JB kp1, kp2⟩] pos) (tCKw (fun xs zs H Q => zs = [.bl true] ∧ rSortKeys true xs H Q) (tCons (tBM0 K "dict" (rViewK keysO) to) tNil) (tCons (tC (.bl true)) tNil)) (aView (oSortKeys true) α) := by
  subst hK
  exact ⟨pe_callBK (cr_sortKeysR hc) hg hm bb_sorted (pa_cons (pe_bm0 PySem.F.plainAttrs_dict PySem.F.slot_dict_keys PySem.F.type_dict_keys mt_keysK ho.pe hbase hline) pa_nil he0) (pk_cons (pd_bl (g := g) (E := E)).pe pk_nil) (by decide) (by decide) he hpl hall hnone hks, se_sortKeysR (g := g.at X.K) (fun σ H Q h => h) ho.se⟩
end
def kView (f : List D → Option D) (d : D) (ρ : List Sl) : Res D := lift (f [d]) ρ
theorem e_view {f : List D → Option D} {a : AE} {ρ : List Sl} : aView f a ρ = (a ρ).bind (kView f) := rfl
theorem e_dict0 {ρ : List Sl} : aDict0 ρ = .ok (.dict []) ρ := rfl
theorem e_mulF {a b : AE} {ρ : List Sl} : aMulF a b ρ = (a ρ).bind (mulA b) := rfl
theorem mulA_l {b : AE} {ds : List D} {ρ : List Sl} : mulA b (.list ds) ρ = (b ρ).bind (mulB ds) := rfl
def kRngD (ds : List D) (ρ : List Sl) : Res (List D) := match ds with
  | [.int i, .int j, .int c] => if inR i = true ∧ inR j = true ∧ c = -1 then .ok (rangeDn i (i - j).toNat) ρ else .bad
  | _ => .bad
theorem e_rngD {q : AD} {ρ : List Sl} : aRngD q ρ = (q ρ).bind kRngD := rfl
theorem kRngD_le {i j : Int} {ρ : List Sl} (h0 : -1000000 ≤ i ∧ i ≤ 1000000) (h : -1000000 ≤ j ∧ j ≤ 1000000) : kRngD [.int i, .int j, .int (-1)] ρ = .ok (rangeDn i (i - j).toNat) ρ := by
  have h1 : inR i = true := by unfold inR; simp only [decide_eq_true_eq, Bool.and_eq_true]; omega
  have h2 : inR j = true := by unfold inR; simp only [decide_eq_true_eq, Bool.and_eq_true]; omega
  exact if_pos ⟨h1, h2, rfl⟩
/-- the ints of a range downwards -/
def rdn (i : Int) (n : Nat) : List Int := (List.range n).map fun (k : Nat) => i - k
theorem rangeDn_eq {i : Int} {n : Nat} : rangeDn i n = (rdn i n).map .int := by unfold rangeDn rdn; rw [List.map_map]; rfl
end DL

/-! [books[k][one] for one in books[k] if least <= one < value]: a dict of numbers walked while it is locked -/
namespace DL
open PySem PySem.Spec PyProof.Rows L2
def bookB (d1 d2 d3 d4 : D) (ρ : List Sl) : Res D := match d1, d2, d3, d4 with
  | .list ds, .int k, .int lo, .int hi => match atI ds k with
    | some (.dict es) => match ints2 es with
      | some l => if (l.map (·.1)).Nodup ∧ l.length ≤ 10000 then .ok (.list ((l.filter fun p => decide (lo ≤ p.1) && decide (p.1 < hi)).map fun p => .int p.2)) ρ else .bad
      | none => .bad
    | _ => .bad
  | _, _, _, _ => .bad
def bookSl (x1 x2 x3 x4 : Sl) (ρ : List Sl) : Res D := match x1, x2, x3, x4 with
  | .dat d1, .dat d2, .dat d3, .dat d4 => bookB d1 d2 d3 d4 ρ
  | _, _, _, _ => .bad
def aBook (i j m n o : Nat) : AE := fun ρ => if o < ρ.length then bookSl (sl ρ i) (sl ρ j) (sl ρ m) (sl ρ n) ρ else .bad
section
variable {g : G} {E : EX}
theorem dat_at {s : S} {i : Nat} {d : D} (ok : s.Ok g) (e : sl s.ρ i = .dat d) : ∃ v, s.σ[i]? = some (some v) ∧ Rep g.K s.F v d := by
  obtain ⟨O, _, _, h3⟩ := ok.sl
  obtain ⟨v, hv, r⟩ := h3 i _ (sl_get e fun q => nomatch q)
  refine ⟨v, ?_, r⟩
  cases q : s.σ[i]? with
  | none => rw [q] at hv; cases hv
  | some u => rw [q] at hv; exact congrArg some hv
theorem val_at : ∀ (l : List I2) (i : Nat) (q : I2), (l.map (·.1)).Nodup → l[i]? = some q → valV (l.map entI) (Sum.inl q.1) = some (.int q.2)
  | e :: l, 0, q, _, h => by
    cases h
    exact valV_pos rfl
  | e :: l, i + 1, q, nd, h => by
    rw [List.map_cons, List.nodup_cons] at nd
    have hq : l[i]? = some q := h
    have hm : q.1 ∈ l.map (·.1) := List.mem_map.mpr ⟨q, List.mem_of_getElem? hq, rfl⟩
    rw [List.map_cons, valV_neg (show (entI e).1 ≠ Sum.inl q.1 from fun z => nd.1 (by rw [show e.1 = q.1 from Sum.inl.inj z]; exact hm))]
    exact val_at l i q nd.2 hq
theorem wipe1 (σ : L2.St) (o i : Nat) (x : Option V) (h : i ≠ o) : (((L2.wipe σ [o]).set o x)[i]?) = σ[i]? := by
  show ((σ.set o none).set o x)[i]? = _
  rw [List.getElem?_set_ne (Ne.symm h), List.getElem?_set_ne (Ne.symm h)]
theorem upd_back {H : Hp} {d p : Addr} {u x y : HO} (h : H d = some u) (ne : p ≠ d) : upd (upd (upd H d x) p y) d u = upd H p y := by
  funext a
  by_cases c : a = d
  · rw [c, upd_same, upd_ne (Ne.symm ne), h]
  · rw [upd_ne c]
    by_cases c2 : a = p
    · rw [c2, upd_same, upd_same]
    · rw [upd_ne c2, upd_ne c2, upd_ne c]
theorem se_book {i j m n o : Nat} (hi : i ≠ o) (hj : j ≠ o) (hm : m ≠ o) (hn : n ≠ o) :
    SE g E (tLockE (tLc (iKeys (tOp (rIx g.K) (tVar i) (tVar j))) (gName o) (tTest (tChain (rI0 fun i j => .bl (decide (i ≤ j))) (rI0 fun i j => .bl (decide (i < j))) (tVar m) (tVar o) (tVar n))) (tDGet (tOp (rIx g.K) (tVar i) (tVar j)) (tVar o)) [o])) (aBook i j m n o) := fun s Q ok h => by
  unfold aBook at h
  split at h
  case isFalse => exact h.elim
  rename_i hlen
  rw [← ok.len] at hlen
  unfold bookSl at h
  split at h
  case h_2 => exact h.elim
  rename_i d1 d2 d3 d4 e1 e2 e3 e4
  unfold bookB at h
  split at h
  case h_2 => exact h.elim
  rename_i ds k lo hi'
  split at h
  case h_2 => exact h.elim
  rename_i es hat
  split at h
  case h_2 => exact h.elim
  rename_i l hl
  split at h
  case isFalse => exact h.elim
  rename_i hc
  obtain ⟨nd, hlen2⟩ := hc
  obtain ⟨v1, s1, r1⟩ := dat_at ok e1
  obtain ⟨v2, s2, r2⟩ := dat_at ok e2
  obtain ⟨v3, s3, r3⟩ := dat_at ok e3
  obtain ⟨v4, s4, r4⟩ := dat_at ok e4
  have i2 := r2.int_inv
  have i3 := r3.int_inv
  have i4 := r4.int_inv
  subst i2 i3 i4
  obtain ⟨a, vs, rfl, hFa, rvs⟩ := r1.lst_inv
  have hat' : ∃ x, atI vs k = some x ∧ Rep g.K s.F x (.dict es) := by
    unfold atI at hat ⊢
    rw [rvs.length]
    cases hix : ixN ds.length k with
    | none => rw [hix] at hat; cases hat
    | some t =>
      rw [hix] at hat
      obtain ⟨x, h1, h2⟩ := rvs.get (show ds[t]? = some (.dict es) from hat)
      exact ⟨x, h1, h2⟩
  obtain ⟨x, hx, rx⟩ := hat'
  obtain ⟨d0, kvs, rfl, hFd, rk⟩ := rx.dic_inv
  have ek := repK_ints2 rk hl
  subst ek
  have hHa := ok.ex _ _ hFa
  have hHd := ok.ex _ _ hFd
  have nad : a ≠ d0 := fun q => by rw [q, hFd] at hFa; cases hFa
  refine ⟨d0, .dK (l.map entI), hHd, trivial, fun od => ?_⟩
  obtain ⟨HL, hHL⟩ : ∃ HL, HL = upd s.H d0 (.frz od (.dK (l.map entI))) := ⟨_, rfl⟩
  rw [← hHL]
  have hLd : HL d0 = some (.frz od (.dK (l.map entI))) := by rw [hHL]; exact upd_same
  have hLa : HL a = some (.lst vs) := by rw [hHL, upd_ne nad]; exact hHa
  -- the item of the list, in any such heap
  have ix : ∀ (σ : L2.St) (H' : Hp) (P : V → Hp → Prop), σ[i]? = s.σ[i]? → σ[j]? = s.σ[j]? → H' a = some (.lst vs) → P (.ref d0) H' → tOp (rIx g.K) (tVar i) (tVar j) σ H' P := fun σ H' P z1 z2 z3 z4 =>
    ⟨_, z1.trans s1, _, z2.trans s2, .inl ⟨a, vs, k, _, rfl, rfl, sqL_of z3, hx, z4⟩⟩
  refine ix s.σ HL _ rfl rfl hLa ⟨d0, od, rfl, .inl ⟨_, hLd, fun p hp => ?_⟩⟩
  have npd : p ≠ d0 := fun q => by rw [q, hLd] at hp; cases hp
  have npa : p ≠ a := fun q => by rw [q, hLa] at hp; cases hp
  have hp0 : s.H p = none := by rw [hHL, upd_ne npd] at hp; exact hp
  let f : I2 → Bool := fun q => decide (lo ≤ q.1) && decide (q.1 < hi')
  let acc : Nat → List V := fun t => ((l.take t).filter f).map fun q => V.int q.2
  refine ⟨fun t mm H' => mm = l.length - t ∧ t ≤ l.length ∧ H' = upd HL p (.lst (acc t)), ⟨_, rfl, Nat.zero_le _, rfl⟩, ?_⟩
  rintro t mm H' ⟨rfl, htl, rfl⟩
  have hd' : ∀ ys, upd HL p (.lst ys) d0 = some (.frz od (.dK (l.map entI))) := fun ys => by rw [upd_ne (Ne.symm npd)]; exact hLd
  have ha' : ∀ ys, upd HL p (.lst ys) a = some (.lst vs) := fun ys => by rw [upd_ne (Ne.symm npa)]; exact hLa
  by_cases hlt : t < l.length
  · refine .inr ⟨⟨hd' _, by rw [List.length_map]; exact hlt⟩, fun H' => H' = upd HL p (.lst (acc (t + 1))), fun H' e => ⟨_, by omega, rfl, by omega, e⟩, ?_⟩
    rintro x H' ⟨rfl, kk, v, hkv, rfl⟩
    obtain ⟨q, hq, hqd⟩ := drop_step hlt
    rw [List.getElem?_map, hq] at hkv
    have hkv := Option.some.inj hkv
    have e1 : kk = Sum.inl q.1 := by rw [show kk = (kk, v).1 from rfl, ← hkv]
    subst e1
    have hstep : acc (t + 1) = acc t ++ (if f q = true then [V.int q.2] else []) := by
      show ((l.take (t + 1)).filter f).map _ = _
      rw [List.take_succ, hq, List.filter_append, List.map_append]
      congr 1
      show (([q] : List I2).filter f).map _ = _
      by_cases c : f q = true
      · rw [if_pos c, List.filter_cons_of_pos c]; rfl
      · rw [if_neg c, List.filter_cons_of_neg c]; rfl
    have w : ∀ z, z ≠ o → ((L2.wipe s.σ [o]).set o (some (kV (Sum.inl q.1))))[z]? = s.σ[z]? := fun z hz => wipe1 s.σ o z _ hz
    have wo : ((L2.wipe s.σ [o]).set o (some (kV (Sum.inl q.1))))[o]? = some (some (V.int q.1)) := by
      rw [List.getElem?_set_self (by rw [L2.wipe_length]; exact hlen)]; rfl
    refine ⟨?_, ?_⟩
    · show ((s.σ.set o none).set o _).set o none = s.σ.set o none
      rw [List.set_set, List.set_set]
    · refine ⟨_, (w m hm).trans s3, _, wo, lo, q.1, rfl, rfl, decide (lo ≤ q.1), rfl, ?_⟩
      have fin : f q = false → upd HL p (.lst (acc t)) = upd HL p (.lst (acc (t + 1))) := fun c => by
        rw [hstep, if_neg (by rw [c]; exact fun z => nomatch z), List.append_nil]
      by_cases c1 : lo ≤ q.1
      · rw [if_pos (decide_eq_true c1)]
        refine ⟨_, (w n hn).trans s4, q.1, hi', rfl, rfl, _, rfl, ?_⟩
        show if decide (q.1 < hi') = true then _ else _
        by_cases c2 : q.1 < hi'
        · rw [if_pos (decide_eq_true c2)]
          have hf : f q = true := by show (decide (lo ≤ q.1) && decide (q.1 < hi')) = true; rw [decide_eq_true c1, decide_eq_true c2]; rfl
          refine ix _ _ _ (w i hi) (w j hj) (ha' _) ⟨_, wo, d0, .int q.2, rfl, .inl ⟨_, Sum.inl q.1, .inr ⟨od, hd' _⟩, rfl, (val_at l t q nd hq).symm⟩, acc t, upd_same, ?_, ?_⟩
          · have h1 : (acc t).length ≤ l.length := by
              show (((l.take t).filter f).map _).length ≤ _
              rw [List.length_map]
              exact Nat.le_trans (List.length_filter_le _ _) (by rw [List.length_take]; omega)
            exact Nat.lt_of_le_of_lt (Nat.le_trans h1 hlen2) (by decide)
          · rw [hstep, if_pos hf]
            funext z
            by_cases c : z = p
            · rw [c, upd_same, upd_same]
            · rw [upd_ne c, upd_ne c, upd_ne c]
        · rw [if_neg (by simpa using c2)]
          exact fin (by show (decide (lo ≤ q.1) && decide (q.1 < hi')) = false; rw [decide_eq_false c2, Bool.and_false])
      · rw [if_neg (by simpa using c1)]
        exact ⟨false, rfl, by show if false = true then _ else _; rw [if_neg (by decide)]; exact fin (by show (decide (lo ≤ q.1) && decide (q.1 < hi')) = false; rw [decide_eq_false c1, Bool.false_and])⟩
  · refine .inl ⟨⟨hd' _, by rw [List.length_map]; omega⟩, hd' _, ?_⟩
    have e : acc t = (l.filter f).map fun q => V.int q.2 := by
      show ((l.take t).filter f).map _ = _
      rw [List.take_of_length_le (by omega)]
    rw [hHL, upd_back hHd npd, e]
    have rr : RepL g.K s.F ((l.filter f).map fun q => V.int q.2) ((l.filter f).map fun q => .int q.2) := by
      have := RepL.of_ints (K := g.K) (F := s.F) ((l.filter f).map fun q => q.2)
      rw [List.map_map, List.map_map] at this
      exact this
    exact new_lst (s := s) ok rr (fun v F H' ok' go' r' => h F H' s.W ok' go' v r') p hp0
end
section
variable {X : Cx} {g : G} {E : EX} {K : Fr}
theorem pd_book {i j m n o : Nat} {y : Str} {elt tg iter : Expr} {ifs : List Expr} {scope : Scope} {pos : Pos} {α : AE} {ag : AG} {at_ : AT} {ae : AE} {ts : List Nat} (hN : X.N.Nodup) (hi : PD X g E iter (tOp (rIx K) (tVar i) (tVar j)) α)
    (hg : ∀ (s : Shared) (H : Hp) (C : Addr) (cl : List (Str × Addr)) (fp : List Addr), PGD (X.blk s H scope (compEnvC scope cl C X.env) fp) g tg (gName o) ag ts)
    (ht : ∀ (s : Shared) (H : Hp) (C : Addr) (cl : List (Str × Addr)) (fp : List Addr), PTsD (X.blk s H scope (compEnvC scope cl C X.env) fp) g E0 ifs (tTest (tChain (rI0 fun i j => .bl (decide (i ≤ j))) (rI0 fun i j => .bl (decide (i < j))) (tVar m) (tVar o) (tVar n))) at_)
    (he : ∀ (s : Shared) (H : Hp) (C : Addr) (cl : List (Str × Addr)) (fp : List Addr), PD (X.blk s H scope (compEnvC scope cl C X.env) fp) g E0 elt (tDGet (tOp (rIx K) (tVar i) (tVar j)) (tVar o)) ae)
    (ok : BlkOk X.N X.env.scope scope [(y, o)]) (h1 : i ≠ o := by decide) (h2 : j ≠ o := by decide) (h3 : m ≠ o := by decide) (h4 : n ≠ o := by decide) (hc : X.calm = true := by rfl) (hs : ∀ x, foldedSetIterable iter X.env x = pure x := by intro _; rfl) (hK : X.K = K := by rfl) :
    PD X g E (.ListComp elt [⟨tg, iter, ifs, 0⟩] scope pos) (tLockE (tLc (iKeys (tOp (rIx K) (tVar i) (tVar j))) (gName o) (tTest (tChain (rI0 fun i j => .bl (decide (i ≤ j))) (rI0 fun i j => .bl (decide (i < j))) (tVar m) (tVar o) (tVar n))) (tDGet (tOp (rIx K) (tVar i) (tVar j)) (tVar o)) [o])) (aBook i j m n o) := by
  subst hK
  exact ⟨pe_lock (pe_lc hc hN (pi_keys hi.pe) ok (fun s H C cl fp => (hg s H C cl fp).pg) (fun s H C cl fp => (ht s H C cl fp).pt) (fun s H C cl fp => (he s H C cl fp).pe) hs), se_book (g := g.at X.K) h1 h2 h3 h4⟩
end
theorem e_book {i j m n o : Nat} {ρ : List Sl} {ds : List D} {k lo hi : Int} {es : List (D × D)} {l : List I2} (ho : o < ρ.length) (e1 : sl ρ i = .dat (.list ds)) (e2 : sl ρ j = .dat (.int k)) (e3 : sl ρ m = .dat (.int lo)) (e4 : sl ρ n = .dat (.int hi)) (e5 : atI ds k = some (.dict es)) (e6 : ints2 es = some l) (e7 : (l.map (·.1)).Nodup) (e8 : l.length ≤ 10000) :
    aBook i j m n o ρ = .ok (.list ((l.filter fun p => decide (lo ≤ p.1) && decide (p.1 < hi)).map fun p => .int p.2)) ρ := by
  unfold aBook
  rw [if_pos ho, e1, e2, e3, e4]
  simp only [bookSl, bookB, e5, e6, if_pos (show (l.map (·.1)).Nodup ∧ l.length ≤ 10000 from ⟨e7, e8⟩)]
end DL

/-! min, max of a tuple of alike data -/
namespace DL
open PySem PySem.Spec PyProof.Rows L2
def rMinU (K : Fr) : List V → Hp → VK → Prop := fun vs H Q => ∃ (a : Addr) (its : List V) (x : D) (ds : List D), vs = [V.ref a] ∧ SqT K H a its ∧ DpAll K H its (x :: ds) ∧ W.AlikeAll (x :: ds) ∧ SeqAt.shaped (.list (x :: ds)) = true ∧
  ∀ (i : Nat) (v : V), its[i]? = some v → (x :: ds)[i]? = some (PySem.W.minD x ds) → Q v H
theorem cr_minU {X : Cx} (hc : X.calm = true) (hu : X.A.units + 64 < cLine) : CallR X (.builtin "min") (rMinU X.K) := by
  intro pins s σ H vs us Q I r h
  obtain ⟨a, its, x, ds, rfl, hs, hd, ha, hsh, q⟩ := h
  obtain ⟨uts, rv, hl, _⟩ := I.tuple hs
  rw [Vals.ref1 r]
  obtain ⟨as, hr⟩ := Dp.readsAll I (x :: ds) its uts hd rv
  have hlen : uts.length = ds.length + 1 := SeqAt.ReadsAll.length (x :: ds) uts as hr
  have hn : uts.toArray.size = ds.length + 1 := by simpa using hlen
  have hdep : PyData.depthAll (x :: ds) + 1 ≤ 64 := by
    unfold SeqAt.shaped at hsh
    rw [Bool.and_eq_true] at hsh
    have := of_decide_eq_true hsh.2
    rw [PyData.depth] at this
    omega
  refine PySem.call_min_walkH (PySem.W.iter_tupleW (A := X.A.in1) (I.ok.hd hc) hl fun s₂ e Wk st hfp hw hk => ?_)
  refine ⟨_, _, _, _, _, _, _, s.heap, _, rfl, Wk, st, hfp, by omega, hw, hk, PySem.W.cmpIn_lt (A := X.A.in1) (show ReadsAll s.heap uts.toArray.toList (x :: ds) as from hr) ha (by show X.A.units + 1 + _ < _; omega), fun v s' hP m => ?_⟩
  obtain ⟨h', tk, rfl, hk'⟩ := PySem.W.moved_old e rfl m
  have e1 : uts.toArray.size - 1 = ds.length := by omega
  have e2 := PySem.W.argBest_fold PySem.W.dataLt PyData.none x ds ds.length (Nat.le_refl _)
  rw [List.take_length] at e2
  rw [e1] at hP
  generalize argBest (fun i j => PySem.W.dataLt ((x :: ds).getD i PyData.none) ((x :: ds).getD j PyData.none)) ds.length = k at hP e2
  have hu2 : uts[k]? = some v := by simpa using hP
  have hkl : k < uts.length := (List.getElem?_eq_some_iff.mp hu2).1
  have hil : its.length = uts.length := rv.length
  have hik : its[k]? = some its[k] := List.getElem?_eq_getElem (by omega)
  obtain ⟨u, h1, h2⟩ := Vals.get rv hik
  rw [hu2] at h1
  cases h1
  have hxk : (x :: ds)[k]? = some (PySem.W.minD x ds) := by
    rw [List.getElem?_eq_getElem (by rw [List.length_cons]; omega)]
    have e3 := e2.2
    rw [List.getD_eq_getElem?_getD, List.getElem?_eq_getElem (by rw [List.length_cons]; omega)] at e3
    exact congrArg some e3
  exact ⟨its[k], H, I.kept hk', h2, q k _ hik hxk⟩
def oMinU : List D → Option D
  | [.tuple (x :: ds)] => if okT (x :: ds) = true then some (PySem.W.minD x ds) else none
  | _ => none
theorem cs_minU {g : G} : CS g (rMinU g.K) oMinU := CS.sc fun F H vs ds d Q e rs hf k => by
  unfold oMinU at hf
  split at hf
  · rename_i x xs
    split at hf
    · rename_i c
      cases hf
      obtain ⟨c1, c2⟩ := okT_alike c
      cases rs with | cons r1 r2 =>
      cases r2
      cases r1 with | tup h r =>
      refine ⟨_, _, x, xs, rfl, e.sqT h, (r.mono e).dp (SeqAt.canLay_of_shaped c2), c1, c2, fun i v hi hx => ?_⟩
      obtain ⟨v', h3, h4⟩ := r.get hx
      rw [hi] at h3
      cases h3
      exact k _ h4
    · cases hf
  · cases hf
def rMaxU (K : Fr) : List V → Hp → VK → Prop := fun vs H Q => ∃ (a : Addr) (its : List V) (x : D) (ds : List D), vs = [V.ref a] ∧ SqT K H a its ∧ DpAll K H its (x :: ds) ∧ W.AlikeAll (x :: ds) ∧ SeqAt.shaped (.list (x :: ds)) = true ∧
  ∀ (i : Nat) (v : V), its[i]? = some v → (x :: ds)[i]? = some (PySem.W.maxD x ds) → Q v H
theorem cr_maxU {X : Cx} (hc : X.calm = true) (hu : X.A.units + 64 < cLine) : CallR X (.builtin "max") (rMaxU X.K) := by
  intro pins s σ H vs us Q I r h
  obtain ⟨a, its, x, ds, rfl, hs, hd, ha, hsh, q⟩ := h
  obtain ⟨uts, rv, hl, _⟩ := I.tuple hs
  rw [Vals.ref1 r]
  obtain ⟨as, hr⟩ := Dp.readsAll I (x :: ds) its uts hd rv
  have hlen : uts.length = ds.length + 1 := SeqAt.ReadsAll.length (x :: ds) uts as hr
  have hn : uts.toArray.size = ds.length + 1 := by simpa using hlen
  have hdep : PyData.depthAll (x :: ds) + 1 ≤ 64 := by
    unfold SeqAt.shaped at hsh
    rw [Bool.and_eq_true] at hsh
    have := of_decide_eq_true hsh.2
    rw [PyData.depth] at this
    omega
  refine PySem.call_max_walkH (PySem.W.iter_tupleW (A := X.A.in1) (I.ok.hd hc) hl fun s₂ e Wk st hfp hw hk => ?_)
  refine ⟨_, _, _, _, _, _, _, s.heap, _, rfl, Wk, st, hfp, by omega, hw, hk, PySem.W.cmpIn_gt (A := X.A.in1) (show ReadsAll s.heap uts.toArray.toList (x :: ds) as from hr) ha (by show X.A.units + 1 + _ < _; omega), fun v s' hP m => ?_⟩
  obtain ⟨h', tk, rfl, hk'⟩ := PySem.W.moved_old e rfl m
  have e1 : uts.toArray.size - 1 = ds.length := by omega
  have e2 := PySem.W.argBest_fold (fun y a => PySem.W.dataLt a y) PyData.none x ds ds.length (Nat.le_refl _)
  rw [List.take_length] at e2
  rw [e1] at hP
  generalize argBest (fun i j => PySem.W.dataLt ((x :: ds).getD j PyData.none) ((x :: ds).getD i PyData.none)) ds.length = k at hP e2
  have hu2 : uts[k]? = some v := by simpa using hP
  have hkl : k < uts.length := (List.getElem?_eq_some_iff.mp hu2).1
  have hil : its.length = uts.length := rv.length
  have hik : its[k]? = some its[k] := List.getElem?_eq_getElem (by omega)
  obtain ⟨u, h1, h2⟩ := Vals.get rv hik
  rw [hu2] at h1
  cases h1
  have hxk : (x :: ds)[k]? = some (PySem.W.maxD x ds) := by
    rw [List.getElem?_eq_getElem (by rw [List.length_cons]; omega)]
    have e3 := e2.2
    rw [List.getD_eq_getElem?_getD, List.getElem?_eq_getElem (by rw [List.length_cons]; omega)] at e3
    exact congrArg some e3
  exact ⟨its[k], H, I.kept hk', h2, q k _ hik hxk⟩
def oMaxU : List D → Option D
  | [.tuple (x :: ds)] => if okT (x :: ds) = true then some (PySem.W.maxD x ds) else none
  | _ => none
theorem cs_maxU {g : G} : CS g (rMaxU g.K) oMaxU := CS.sc fun F H vs ds d Q e rs hf k => by
  unfold oMaxU at hf
  split at hf
  · rename_i x xs
    split at hf
    · rename_i c
      cases hf
      obtain ⟨c1, c2⟩ := okT_alike c
      cases rs with | cons r1 r2 =>
      cases r2
      cases r1 with | tup h r =>
      refine ⟨_, _, x, xs, rfl, e.sqT h, (r.mono e).dp (SeqAt.canLay_of_shaped c2), c1, c2, fun i v hi hx => ?_⟩
      obtain ⟨v', h3, h4⟩ := r.get hx
      rw [hi] at h3
      cases h3
      exact k _ h4
    · cases hf
  · cases hf
section
variable {X : Cx} {g : G} {E : EX} {K : Fr} {a : Expr} {pos : Pos}
theorem pd_minU {es : List Expr} {t : TA} {q : AD} {p : Pos} (hu : X.A.units + 64 < cLine) (hm : X.mg "min" = none) (ha : PDD X g E (a :: es) t q) (hg : Gl X "min" := by rfl) (he : starEach (a :: es) X.env = (false, eval a X.env) :: starEach es X.env := by rfl) (hpl : (backTo pos (starEach es X.env)).any (·.1) = false := by rfl) (hc : X.calm = true := by rfl) (hK : X.K = K := by rfl) : PD X g E (.Call (.Name "min" p) (a :: es) [] pos) (tCB (rMinU K) t) (aCB oMinU q) := by
  subst hK
  exact pd_cb (cr_minU hc hu) (cs_minU (g := g.at X.K)) bb_min hm ha hg (by decide) (by decide) he hpl
theorem pd_maxU {es : List Expr} {t : TA} {q : AD} {p : Pos} (hu : X.A.units + 64 < cLine) (hm : X.mg "max" = none) (ha : PDD X g E (a :: es) t q) (hg : Gl X "max" := by rfl) (he : starEach (a :: es) X.env = (false, eval a X.env) :: starEach es X.env := by rfl) (hpl : (backTo pos (starEach es X.env)).any (·.1) = false := by rfl) (hc : X.calm = true := by rfl) (hK : X.K = K := by rfl) : PD X g E (.Call (.Name "max" p) (a :: es) [] pos) (tCB (rMaxU K) t) (aCB oMaxU q) := by
  subst hK
  exact pd_cb (cr_maxU hc hu) (cs_maxU (g := g.at X.K)) bb_max hm ha hg (by decide) (by decide) he hpl
end
theorem okT_two (a b : Int) : okT [.int a, .int b] = true := by
  unfold okT
  simp [PySem.W.alike, isN, SeqAt.shaped, PyData.canLay0, PyData.canLayAll0, PyData.depth, PyData.depthAll]
theorem oMinU_two (a b : Int) : oMinU [.tuple [.int a, .int b]] = some (.int (min a b)) := by
  show (if okT [.int a, .int b] = true then some (PySem.W.minD (.int a) [.int b]) else none) = _
  rw [if_pos (okT_two a b), show [PyData.int b] = [b].map PyData.int from rfl, PySem.W.minD_ints]; rfl
theorem oMaxU_two (a b : Int) : oMaxU [.tuple [.int a, .int b]] = some (.int (max a b)) := by
  show (if okT [.int a, .int b] = true then some (PySem.W.maxD (.int a) [.int b]) else none) = _
  rw [if_pos (okT_two a b), show [PyData.int b] = [b].map PyData.int from rfl, PySem.W.maxD_ints]; rfl
end DL

/-! Tracks: an instance with a line and a list of lines behind it, in a pinned slot. -/
namespace DL
open PySem PySem.Spec PyProof.Rows L2
structure TrkOk (g : G) : Prop where
  cls : Cls g.K g.C
  nh : NoAttr g.K g.C "here"
  np : NoAttr g.K g.C "past"
section
variable {g : G} {E : EX}
theorem trk_at {s : S} {i : Nat} {here : D} {past : List D} (ok : s.Ok g) (e : sl s.ρ i = .pin (.trk here past)) : ∃ a dx vh p vs, s.σ[i]? = some (some (.ref a)) ∧ a ≠ p ∧ s.H a = some (.ins g.C dx (trkF vh p)) ∧ s.H p = some (.lst vs) ∧ Rep g.K s.F vh here ∧ RepL g.K s.F vs past := by
  obtain ⟨v, hv, P, a, dx, vh, p, vs, h1, h2, h3, h4, h5, h6, h7, h8⟩ := pin_at ok e
  cases h1
  exact ⟨a, dx, vh, p, vs, hv, h4, h5, h6, h7, h8⟩
theorem putF_here (y vh : V) (p : Addr) : putF "here" y (trkF vh p) = trkF y p := by
  show putF "here" y [("here", vh), ("past", .ref p)] = _
  unfold putF
  rw [if_pos rfl]; rfl
theorem putF_past (vh : V) (p q : Addr) : putF "past" (.ref q) (trkF vh p) = trkF vh q := by
  show putF "past" (.ref q) [("here", vh), ("past", .ref p)] = _
  unfold putF
  rw [if_neg (by decide)]
  unfold putF
  rw [if_pos rfl]; rfl
theorem look_here (vh : V) (p : Addr) : (trkF vh p).lookup ("here" : Str) = some vh := by
  show List.lookup ("here" : Str) [(("here" : Str), vh), ("past", .ref p)] = _
  simp [List.lookup]
theorem look_past (vh : V) (p : Addr) : (trkF vh p).lookup ("past" : Str) = some (V.ref p) := by
  show List.lookup ("past" : Str) [(("here" : Str), vh), ("past", .ref p)] = _
  have : (("past" : Str) == "here") = false := by decide
  simp [List.lookup, this]
theorem trkF_inj {v w : V} {p q : Addr} (h : trkF v p = trkF w q) : v = w ∧ p = q := by
  unfold trkF at h
  simp only [List.cons.injEq, Prod.mk.injEq, true_and, V.ref.injEq, and_true] at h
  exact h
/-! its line -/
def aHere (i : Nat) : AE := fun ρ => match sl ρ i with
  | .pin (.trk h _) => .ok h ρ
  | _ => .bad
theorem se_here {i : Nat} (tk : TrkOk g) : SE g E (tFld g.K (tVar i) "here") (aHere i) := fun s Q ok h => by
  unfold aHere at h
  split at h
  · rename_i hd past e
    obtain ⟨a, dx, vh, p, vs, hσ, ne, ha, hp, rh, rp⟩ := trk_at ok e
    exact ⟨_, hσ, a, g.C, dx, trkF vh p, vh, rfl, ha, tk.cls, tk.nh, look_here vh p, Aft.here (s := s) ok h vh rh⟩
  · exact h.elim
/-! what lies behind it -/
def aPast0 (i : Nat) : AE := fun ρ => match sl ρ i with
  | .pin (.trk _ past) => lift (oEq (.list past) (.list [])) ρ
  | _ => .bad
theorem se_past0 {i : Nat} (tk : TrkOk g) : SE g E (tOp (rEqD g.K) (tFld g.K (tVar i) "past") (tLst tNil)) (aPast0 i) := fun s Q ok h => by
  unfold aPast0 at h
  split at h
  · rename_i hd past e
    obtain ⟨a, dx, vh, p, vs, hσ, ne, ha, hp, rh, rp⟩ := trk_at ok e
    obtain ⟨d, hf, k⟩ := h.lift
    refine ⟨_, hσ, a, g.C, dx, trkF vh p, .ref p, rfl, ha, tk.cls, tk.np, look_past vh p, Nat.zero_le _, fun q hq => ?_⟩
    obtain ⟨ok2, go2⟩ := S.Ok.junk (o := .lst []) ok hq
    unfold oEq at hf
    split at hf
    · rename_i c
      cases hf
      have c1 := SeqAt.canLay_of_shaped c.1
      have hpq : upd s.H q (.lst []) p = some (.lst vs) := by rw [upd_ne (ne_of_none hp hq)]; exact hp
      refine ⟨.list past, .list [], .lst (sqL_of hpq) ((rp.mono ok2.ex).dp (by simpa [PyData.canLay0] using c1)), .lst (sqL_of upd_same) .nil, c.1, c.2, k _ _ _ ok2 go2 _ (.bl _)⟩
    · cases hf
  · exact h.elim
def aPastT (i : Nat) : AE := fun ρ => match sl ρ i with
  | .pin (.trk _ past) => .ok (.tuple past) ρ
  | _ => .bad
theorem se_pastT {i : Nat} (tk : TrkOk g) : SE g E (tCB (fun xs H Q => ∃ p ys, xs = [.ref p] ∧ ((SqL g.K H p ys ∧ ∀ l, H l = none → Q (.ref l) (upd H l (.tup ys))) ∨ (SqT g.K H p ys ∧ Q (.ref p) H))) (tCons (tFld g.K (tVar i) "past") tNil)) (aPastT i) := fun s Q ok h => by
  unfold aPastT at h
  split at h
  · rename_i hd past e
    obtain ⟨a, dx, vh, p, vs, hσ, ne, ha, hp, rh, rp⟩ := trk_at ok e
    exact ⟨_, hσ, a, g.C, dx, trkF vh p, .ref p, rfl, ha, tk.cls, tk.np, look_past vh p, p, vs, rfl, .inl ⟨sqL_of hp, new_tup (s := s) ok rp fun v F H ok' go' r' => h F H s.W ok' go' v r'⟩⟩
  · exact h.elim
/-! its line is laid behind it -/
def asPush (i : Nat) : AS := fun ρ => match sl ρ i with
  | .pin (.trk h past) => if past.length ≤ 10000 then .nx (ρ.set i (.pin (.trk h (past ++ [h])))) else .bad
  | _ => .bad
theorem chg_past {s : S} {i : Nat} {here here' : D} {past past' : List D} {a dx p : Addr} {vh : V} {vs vs' : List V} (ok : s.Ok g) (e : sl s.ρ i = .pin (.trk here past)) (hσ : s.σ[i]? = some (some (.ref a))) (ha : s.H a = some (.ins g.C dx (trkF vh p))) (hp : s.H p = some (.lst vs)) (he : here' = here) (rp : RepL g.K s.F vs' past') :
    (S.mk s.F (upd s.H p (.lst vs')) s.W s.σ (s.ρ.set i (.pin (.trk here' past')))).Ok g ∧ Go s ⟨s.F, upd s.H p (.lst vs'), s.W, s.σ, s.ρ.set i (.pin (.trk here' past'))⟩ := by
  subst he
  refine S.Ok.chg ok (putS_lt e fun q => nomatch q) (fun P hP => ?_) (fun m q => ⟨_, rfl⟩)
  rw [e, hσ] at hP
  obtain ⟨a', dx', vh', p', ws, z1, z2, z3, z4, z5, z6, z7, z8⟩ := hP
  cases z1
  rw [ha] at z5
  simp only [Option.some.injEq, HO.ins.injEq, true_and] at z5
  obtain ⟨e1, e2⟩ := z5
  obtain ⟨e3, e4⟩ := trkF_inj e2
  subst e1 e3 e4
  refine ⟨z3, a, dx, vh, p, vs', by rw [hσ]; rfl, z2, z3, z4, ?_, upd_same, z7, rp⟩
  rw [upd_ne z4]; exact ha
theorem ss_push {i : Nat} (tk : TrkOk g) : SS g E (tDrop (tBM g.K "list" rAppend (tFld g.K (tVar i) "past") (tCons (tFld g.K (tVar i) "here") tNil))) (asPush i) := fun s D ok h => by
  unfold asPush at h
  split at h
  · rename_i hd past e
    split at h
    · rename_i c
      obtain ⟨a, dx, vh, p, vs, hσ, ne, ha, hp, rh, rp⟩ := trk_at ok e
      obtain ⟨ok2, go2⟩ := chg_past (past' := past ++ [hd]) (vs' := vs ++ [vh]) ok e hσ ha hp rfl (rp.append (.cons rh .nil))
      refine ⟨_, hσ, a, g.C, dx, trkF vh p, .ref p, rfl, ha, tk.cls, tk.np, look_past vh p, .inl ⟨rfl, _, sqL_of hp⟩, _, hσ, a, g.C, dx, trkF vh p, vh, rfl, ha, tk.cls, tk.nh, look_here vh p, p, vs, vh, rfl, rfl, hp, by rw [rp.length]; exact Nat.lt_of_le_of_lt c (by decide), ?_⟩
      exact h _ rfl ok2 go2
    · exact h.elim
  · exact h.elim
/-! its line is set -/
theorem chg_ins {s : S} {i : Nat} {m m' : Mu} {a dx : Addr} {fs fs' : List (Str × V)} (ok : s.Ok g) (e : sl s.ρ i = .pin m) (hσ : s.σ[i]? = some (some (.ref a))) (ha : s.H a = some (.ins g.C dx fs))
    (h : ∀ P, SlOk g s.F s.H P (some (.ref a)) (.pin m) → P a ∧ SlOk g s.F (upd s.H a (.ins g.C dx fs')) P (some (.ref a)) (.pin m')) :
    (S.mk s.F (upd s.H a (.ins g.C dx fs')) s.W s.σ (s.ρ.set i (.pin m'))).Ok g ∧ Go s ⟨s.F, upd s.H a (.ins g.C dx fs'), s.W, s.σ, s.ρ.set i (.pin m')⟩ :=
  S.Ok.chg ok (putS_lt e fun q => nomatch q) (fun P hP => by
    rw [e, hσ] at hP
    rw [hσ]
    exact h P hP) (fun m q => ⟨_, rfl⟩)
def hereB (i : Nat) (d : D) (ρ : List Sl) : Sl → SRes
  | .pin (.trk _ past) => .nx (ρ.set i (.pin (.trk d past)))
  | .pin .raw => .nx (ρ.set i (.pin (.half d)))
  | _ => .bad
def kHere (i : Nat) (d : D) (ρ : List Sl) : SRes := hereB i d ρ (sl ρ i)
def asHere (i : Nat) (b : AE) : AS := fun ρ => (b ρ).thn (kHere i)
theorem ss_here {i : Nat} {te : TE} {b : AE} (tk : TrkOk g) (hb : SE g E te b) : SS g E (sFld g.K (tVar i) te "here") (asHere i b) := fun s D ok h =>
  hb s _ ok ((AftS.thn h).mono fun d F H W ρ ok1 go1 k v rv => by
    unfold kHere at k
    have key : ∀ x, sl ρ i = x → AftS g E ⟨F, H, W, s.σ, ρ⟩ (hereB i d ρ x) (KE.of g D) → tVar i s.σ H fun x H2 => ∃ a C dx fs, x = .ref a ∧ H2 a = some (.ins C dx fs) ∧ Cls g.K C ∧ NoAttr g.K C "here" ∧ fs.length < 1000 ∧ D.nx s.σ (upd H2 a (.ins C dx (putF "here" v fs))) := by
      intro x e k
      unfold hereB at k
      split at k
      · rename_i hd past
        obtain ⟨a, dx, vh, p, vs, hσ, ne, ha, hp, rh, rp⟩ := trk_at (s := ⟨F, H, W, s.σ, ρ⟩) ok1 e
        refine ⟨_, hσ, a, g.C, dx, trkF vh p, rfl, ha, tk.cls, tk.nh, (by show 2 < 1000; decide), ?_⟩
        rw [putF_here]
        obtain ⟨ok2, go2⟩ := chg_ins (s := ⟨F, H, W, s.σ, ρ⟩) (m' := .trk d past) (fs' := trkF v p) ok1 e hσ ha (fun P hP => by
          obtain ⟨a', dx', vh', p', ws, z1, z2, z3, z4, z5, z6, z7, z8⟩ := hP
          cases z1
          have z5 : H a = some (.ins g.C dx' (trkF vh' p')) := z5
          rw [show H a = _ from ha] at z5
          simp only [Option.some.injEq, HO.ins.injEq, true_and] at z5
          obtain ⟨q1, q2⟩ := z5
          obtain ⟨q3, q4⟩ := trkF_inj q2
          subst q1 q3 q4
          refine ⟨z2, a, dx, v, p, ws, rfl, z2, z3, z4, upd_same, ?_, rv, z8⟩
          show upd H a _ p = _
          rw [upd_ne (Ne.symm z4)]; exact z6)
        exact k _ rfl ok2 go2
      · obtain ⟨v0, hσ, P0, a, dx, h1, h2, h3⟩ := pin_at (s := ⟨F, H, W, s.σ, ρ⟩) ok1 e
        cases h1
        refine ⟨_, hσ, a, g.C, dx, [], rfl, h3, tk.cls, tk.nh, (by decide), ?_⟩
        obtain ⟨ok2, go2⟩ := chg_ins (s := ⟨F, H, W, s.σ, ρ⟩) (m' := .half d) (fs' := [("here", v)]) ok1 e hσ h3 (fun P hP => by
          obtain ⟨a', dx', z1, z2, z3⟩ := hP
          cases z1
          exact ⟨z2, a, dx, v, rfl, z2, upd_same, rv⟩)
        exact k _ rfl ok2 go2
      · exact k.elim
    exact key _ rfl k)
/-! another list is laid behind it -/
/-- a new object joins those that the slot i names, one of which changes -/
theorem S.Ok.chgNew {s : S} {i : Nat} {m m' : Mu} {a p : Addr} {o o' : HO} (ok : s.Ok g) (e : DL.sl s.ρ i = .pin m) (hp : s.H p = none)
    (h : ∀ P, SlOk g s.F s.H P (s.σ[i]?.join) (.pin m) → P a ∧ SlOk g s.F (upd (upd s.H p o) a o') (fun b => P b ∨ b = p) (s.σ[i]?.join) (.pin m')) :
    (S.mk s.F (upd (upd s.H p o) a o') (fun b => s.W b ∨ b = p) s.σ (s.ρ.set i (.pin m'))).Ok g ∧ Go s ⟨s.F, upd (upd s.H p o) a o', fun b => s.W b ∨ b = p, s.σ, s.ρ.set i (.pin m')⟩ := by
  have hi : i < s.ρ.length := putS_lt e fun q => nomatch q
  obtain ⟨O, h1, h2, h3⟩ := ok.sl
  have hs := h3 i (.pin m) (sl_get e fun q => nomatch q)
  obtain ⟨hpa, hx⟩ := h (O i) hs
  have wa := h1 i a hpa
  have fp := ok.ex.free hp
  have nW : ∀ b, s.W b → b ≠ p := fun b hb q => (ok.fw b hb).2 (by rw [q]; exact hp)
  have old : ∀ b, b ≠ a → s.H b ≠ none → upd (upd s.H p o) a o' b = s.H b := fun b h1 h2 => by
    rw [upd_ne h1, upd_ne (fun q => h2 (by rw [q]; exact hp))]
  refine ⟨⟨fun b u hb => ?_, fun b hb => ?_, by show s.σ.length = (s.ρ.set i (.pin m')).length; rw [List.length_set]; exact ok.len, fun j b => O j b ∨ (j = i ∧ b = p), fun j b hb => ?_, fun j k b hb hc => ?_, fun j x hj => ?_⟩, ⟨.refl _, fun b u hb hw => ?_, fun b _ hb _ => hb, fun b hb => ?_, fun j n hj => ⟨rfl, ?_⟩⟩⟩
  · have hb' := ok.ex b u hb
    show upd (upd s.H p o) a o' b = some u
    rw [old b (fun q => by rw [q] at hb; rw [(ok.fw a wa).1] at hb; cases hb) (by rw [hb']; exact fun q => nomatch q)]; exact hb'
  · rcases (show s.W b ∨ b = p from hb) with hb | rfl
    · refine ⟨(ok.fw b hb).1, ?_⟩
      show upd (upd s.H p o) a o' b ≠ none
      by_cases c : b = a
      · rw [c, upd_same]; exact fun q => nomatch q
      · rw [old b c (ok.fw b hb).2]; exact (ok.fw b hb).2
    · refine ⟨fp, ?_⟩
      show upd (upd s.H b o) a o' b ≠ none
      rw [upd_ne (Ne.symm (nW a wa)), upd_same]; exact fun q => nomatch q
  · rcases hb with hb | ⟨_, rfl⟩
    · exact .inl (h1 j b hb)
    · exact .inr rfl
  · rcases hb with hb | ⟨rfl, rfl⟩ <;> rcases hc with hc | ⟨rfl, q⟩
    · exact h2 j k b hb hc
    · exact absurd q (nW b (h1 j b hb))
    · exact absurd rfl (nW b (h1 k b hc))
    · rfl
  · have hj : (s.ρ.set i (.pin m'))[j]? = some x := hj
    show SlOk g s.F (upd (upd s.H p o) a o') (fun b => O j b ∨ (j = i ∧ b = p)) (s.σ[j]?.join) x
    by_cases c : i = j
    · subst c
      rw [List.getElem?_set_self hi] at hj
      cases hj
      exact SlOk.keep (.refl _) (fun _ _ _ => rfl) (fun b hb => by
        rcases hb with hb | hb
        · exact .inl hb
        · exact .inr ⟨rfl, hb⟩) hx
    · rw [List.getElem?_set_ne c] at hj
      exact (h3 j x hj).keep (.refl _) (fun b hb hne => old b (fun q => c (h2 i j a hpa (by rw [← q]; exact hb))) hne) fun b hb => .inl hb
  · have hne : s.H b ≠ none := by rw [hb]; exact fun q => nomatch q
    show upd (upd s.H p o) a o' b = some u
    rw [old b (fun q => hw (by rw [q]; exact wa)) hne]; exact hb
  · rcases (show s.W b ∨ b = p from hb) with hb | rfl
    · exact .inl hb
    · exact .inr hp
  · show ∃ n', (s.ρ.set i (.pin m'))[j]? = some (.pin n')
    by_cases c : i = j
    · subst c; exact ⟨m', List.getElem?_set_self hi⟩
    · rw [List.getElem?_set_ne c]; exact ⟨n, hj⟩
/-- what stands for another list behind it -/
def pastB (i : Nat) (ds : List D) (ρ : List Sl) : Sl → SRes
  | .pin (.trk h _) => .nx (ρ.set i (.pin (.trk h ds)))
  | .pin (.half h) => .nx (ρ.set i (.pin (.trk h ds)))
  | _ => .bad
def asPast0 (i : Nat) : AS := fun ρ => pastB i [] ρ (sl ρ i)
def kPastL (i : Nat) (d : D) (ρ : List Sl) : SRes := match d with
  | .list ds => pastB i ds ρ (sl ρ i)
  | .tuple ds => pastB i ds ρ (sl ρ i)
  | _ => .bad
def asPastL (i : Nat) (b : AE) : AS := fun ρ => (b ρ).thn (kPastL i)
theorem past_set {s : S} {N : Ends} {i : Nat} {ds : List D} {vs : List V} (tk : TrkOk g) (ok : s.Ok g) (r : RepL g.K s.F vs ds) {q : Addr} (hq : s.H q = none) (k : AftS g E s (pastB i ds s.ρ (sl s.ρ i)) (KE.of g N)) :
    tVar i s.σ (upd s.H q (.lst vs)) fun x H2 => ∃ a C dx fs, x = .ref a ∧ H2 a = some (.ins C dx fs) ∧ Cls g.K C ∧ NoAttr g.K C "past" ∧ fs.length < 1000 ∧ N.nx s.σ (upd H2 a (.ins C dx (putF "past" (.ref q) fs))) := by
  have key : ∀ x, sl s.ρ i = x → AftS g E s (pastB i ds s.ρ x) (KE.of g N) → tVar i s.σ (upd s.H q (.lst vs)) fun x H2 => ∃ a C dx fs, x = .ref a ∧ H2 a = some (.ins C dx fs) ∧ Cls g.K C ∧ NoAttr g.K C "past" ∧ fs.length < 1000 ∧ N.nx s.σ (upd H2 a (.ins C dx (putF "past" (.ref q) fs))) := by
    intro x e k
    unfold pastB at k
    split at k
    · rename_i hd past
      obtain ⟨a, dx, vh, p, ws, hσ, ne, ha, hp, rh, rp⟩ := trk_at ok e
      have naq : a ≠ q := ne_of_none ha hq
      refine ⟨_, hσ, a, g.C, dx, trkF vh p, rfl, by rw [upd_ne naq]; exact ha, tk.cls, tk.np, (by show 2 < 1000; decide), ?_⟩
      rw [putF_past]
      obtain ⟨ok2, go2⟩ := S.Ok.chgNew (m' := .trk hd ds) (a := a) (p := q) (o := .lst vs) (o' := .ins g.C dx (trkF vh q)) ok e hq (fun P hP => by
        rw [hσ] at hP ⊢
        obtain ⟨a', dx', vh', p', ws', z1, z2, z3, z4, z5, z6, z7, z8⟩ := hP
        cases z1
        refine ⟨z2, a, dx, vh, q, vs, rfl, .inl z2, .inr rfl, naq, upd_same, ?_, rh, r⟩
        rw [upd_ne (Ne.symm naq), upd_same])
      exact k _ rfl ok2 go2
    · rename_i hd
      obtain ⟨v0, hσ, P0, a, dx, vh, h1, h2, h3, h4⟩ := pin_at ok e
      cases h1
      have naq : a ≠ q := ne_of_none h3 hq
      refine ⟨_, hσ, a, g.C, dx, [("here", vh)], rfl, by rw [upd_ne naq]; exact h3, tk.cls, tk.np, (by show 1 < 1000; decide), ?_⟩
      have ep : putF "past" (.ref q) [("here", vh)] = trkF vh q := by
        unfold putF
        rw [if_neg (by decide)]; rfl
      rw [ep]
      obtain ⟨ok2, go2⟩ := S.Ok.chgNew (m' := .trk hd ds) (a := a) (p := q) (o := .lst vs) (o' := .ins g.C dx (trkF vh q)) ok e hq (fun P hP => by
        rw [hσ] at hP ⊢
        obtain ⟨a', dx', vh', z1, z2, z3, z4⟩ := hP
        cases z1
        refine ⟨z2, a, dx, vh, q, vs, rfl, .inl z2, .inr rfl, naq, upd_same, ?_, h4, r⟩
        rw [upd_ne (Ne.symm naq), upd_same])
      exact k _ rfl ok2 go2
    · exact k.elim
  exact key _ rfl k
theorem ss_past0 {i : Nat} (tk : TrkOk g) : SS g E (sFld g.K (tVar i) (tLst tNil) "past") (asPast0 i) := fun s D ok h =>
  ⟨Nat.zero_le _, fun q hq => past_set tk ok .nil hq h⟩
theorem ss_pastL {i : Nat} {te : TE} {b : AE} (tk : TrkOk g) (hb : SE g E te b) : SS g E (sFld g.K (tVar i) (tCB (fun xs H Q => ∃ p ys, xs = [.ref p] ∧ (SqL g.K H p ys ∨ SqT g.K H p ys) ∧ ∀ l, H l = none → Q (.ref l) (upd H l (.lst ys))) (tCons te tNil)) "past") (asPastL i b) := fun s D ok h =>
  hb s _ ok ((AftS.thn h).mono fun d F H W ρ ok1 go1 k v rv => by
    unfold kPastL at k
    split at k
    · rename_i ds
      cases rv with | lst hF r =>
      exact ⟨_, _, rfl, .inl (sqL_of (ok1.ex _ _ hF)), fun q hq => past_set (s := ⟨F, H, W, s.σ, ρ⟩) tk ok1 r hq k⟩
    · rename_i ds
      cases rv with | tup hF r =>
      exact ⟨_, _, rfl, .inr (ok1.ex.sqT hF), fun q hq => past_set (s := ⟨F, H, W, s.σ, ρ⟩) tk ok1 r hq k⟩
    · exact k.elim)
/-! its line is the last one that lay behind it -/
def asPopH (i : Nat) : AS := fun ρ => match sl ρ i with
  | .pin (.trk _ past) => match past.getLast? with
    | some d => .nx (ρ.set i (.pin (.trk d past.dropLast)))
    | none => .bad
  | _ => .bad
theorem ss_popH {i : Nat} (tk : TrkOk g) : SS g E (sFld g.K (tVar i) (tBM0 g.K "list" rPop (tFld g.K (tVar i) "past")) "here") (asPopH i) := fun s N ok h => by
  unfold asPopH at h
  split at h
  · rename_i hd past e
    split at h
    · rename_i d hl
      obtain ⟨a, dx, vh, p, vs, hσ, ne, ha, hp, rh, rp⟩ := trk_at ok e
      have hlen := rp.length
      have hpos : past ≠ [] := fun q => by rw [q] at hl; cases hl
      have hd2 : past[past.length - 1]? = some d := by rw [← hl, List.getLast?_eq_getElem?]
      obtain ⟨y, hy, ry⟩ := rp.get hd2
      have hrd : RepL g.K s.F vs.dropLast past.dropLast := by
        have key : ∀ {vs : List V} {ds : List D}, RepL g.K s.F vs ds → RepL g.K s.F vs.dropLast ds.dropLast := by
          intro vs ds r
          induction ds generalizing vs with
          | nil => cases r; exact .nil
          | cons d ds ih =>
            cases r with | cons h r =>
            cases ds with
            | nil => cases r; exact .nil
            | cons d2 ds =>
              cases r with | cons h2 r =>
              exact .cons h (ih (.cons h2 r))
        exact key rp
      obtain ⟨ok2, go2⟩ := chg_past (past' := past.dropLast) (vs' := vs.dropLast) ok e hσ ha hp rfl hrd
      have e2 : sl (s.ρ.set i (.pin (.trk hd past.dropLast))) i = .pin (.trk hd past.dropLast) := sl_of (List.getElem?_set_self (putS_lt e fun q => nomatch q))
      have ha2 : upd s.H p (.lst vs.dropLast) a = some (.ins g.C dx (trkF vh p)) := by rw [upd_ne ne]; exact ha
      obtain ⟨ok3, go3⟩ := chg_ins (s := ⟨s.F, upd s.H p (.lst vs.dropLast), s.W, s.σ, s.ρ.set i (.pin (.trk hd past.dropLast))⟩) (m' := .trk d past.dropLast) (fs' := trkF y p) ok2 e2 hσ ha2 (fun P hP => by
        obtain ⟨a', dx', vh', p', ws, z1, z2, z3, z4, z5, z6, z7, z8⟩ := hP
        cases z1
        have z5 : upd s.H p (.lst vs.dropLast) a = some (.ins g.C dx' (trkF vh' p')) := z5
        rw [ha2] at z5
        simp only [Option.some.injEq, HO.ins.injEq, true_and] at z5
        obtain ⟨q1, q2⟩ := z5
        obtain ⟨q3, q4⟩ := trkF_inj q2
        subst q1 q3 q4
        refine ⟨z2, a, dx, y, p, ws, rfl, z2, z3, z4, upd_same, ?_, ry, z8⟩
        show upd (upd s.H p (.lst vs.dropLast)) a _ p = _
        rw [upd_ne (Ne.symm z4)]; exact z6)
      refine ⟨_, hσ, a, g.C, dx, trkF vh p, .ref p, rfl, ha, tk.cls, tk.np, look_past vh p, .inl ⟨rfl, _, sqL_of hp⟩, p, vs, y, rfl, rfl, hp, by rw [hlen]; exact hy, _, hσ, a, g.C, dx, trkF vh p, rfl, ha2, tk.cls, tk.nh, (by show 2 < 1000; decide), ?_⟩
      rw [putF_here]
      have e4 : (s.ρ.set i (.pin (.trk hd past.dropLast))).set i (.pin (.trk d past.dropLast)) = s.ρ.set i (.pin (.trk d past.dropLast)) := List.set_set ..
      rw [show (S.mk s.F (upd s.H p (.lst vs.dropLast)) s.W s.σ (s.ρ.set i (.pin (.trk hd past.dropLast)))).ρ = s.ρ.set i (.pin (.trk hd past.dropLast)) from rfl, e4] at ok3 go3
      exact h _ rfl ok3 (go2.trans go3)
    · exact h.elim
  · exact h.elim
end
end DL

/-! Tracks: methods, making, defs that hand one back. -/
namespace DL
open PySem PySem.Spec PyProof.Rows L2
/-! ### o.m(..), with what passes at the slots -/
def tMethS (C : Addr) (m : Str) (sp : Sp) (E : L2.St → XK) (ta : TE) (t : TA) : TE := fun σ H Q => ta σ H fun x H1 => ∃ a dx fs, x = .ref a ∧ H1 a = some (.ins C dx fs) ∧ fs.lookup m = none ∧ t σ H1 fun vs H2 => sp (x :: vs) H2 Q (E σ)
def tMakeS (C : Addr) (sp : Sp) (E : L2.St → XK) (t : TA) : TE := fun σ H Q => t σ H fun vs H1 => ∀ x dx, H1 x = none → H1 dx = none → dx ≠ x → sp (.ref x :: vs) (upd (upd H1 dx (.own x)) x (.ins C dx [])) (fun v H2 => v = .non ∧ Q (.ref x) H2) (E σ)
section
variable {X : Cx} {CX : CXT} {k : Nat} {f C : Addr} {fd : FuncData} {ps : List Str} {sp : Sp} {E : L2.St → XK} {x m : Str} {p pos apos : Pos} {e o : Expr} {es : List Expr} {ta : TE} {t : TA}
theorem pe_methT {pl : Sem Bool} (he : PE X o ta) (c : Cls X.K C) (hm : Meth X.K C m f) (F : FnOk X.prog X.w X.K X.mg X.base CX k f fd ps sp) (hr : Room k X.A) (hb : Binds X.K fd ps []) (hx : ∀ σ, PassesAt CX X σ (E σ)) (ha : PA X (e :: es) t)
    (hst : starEach (e :: es) X.env = (false, eval e X.env) :: starEach es X.env := by rfl) (hpl : (backTo pos (starEach es X.env)).any (·.1) = false := by rfl)
    (ht : eval (.Call (.Attribute o m apos) (e :: es) [] pos) X.env = (do
      let ov ← eval o X.env
      standAt apos.atName
      let (f, first) ← holding [ov] (getMethod ov m pl)
      callWith pos f first (backTo pos (starEach (e :: es) X.env)) (backToKw pos (keywordEach [] X.env))) := by rfl) :
    PE X (.Call (.Attribute o m apos) (e :: es) [] pos) (tMethS C m sp E ta t) := by
  refine ⟨fun pins s σ H Q I h => ?_⟩
  refine PySem.W.methodCall_KW (pl := pl) (thn (he.run pins s σ H _ I h) fun u s1 ⟨x, H1, I1, rx, a, dx, fs, ex, ea, l, q⟩ => ?_) ht
  subst ex
  obtain rfl : u = Value.ref a := rx
  refine getmeth_ok I1 ea c hm l ?_
  refine PySem.W.callWith_K (first := [.ref a]) (h₀ := X.base) I.ok.mod.kin hm.kp (thn (ha.run pos pins s1 σ H1 _ I1 q) fun us s2 ⟨vs, H2, I2, r, q2⟩ => ⟨I2.kIn, ?_⟩) hst hpl
  exact run_fnS (us := .ref a :: us) (vs := .ref a :: vs) F hr hb (hx σ) I2 (.cons rfl r) q2
theorem pe_methT0 {pl : Sem Bool} (he : PE X o ta) (c : Cls X.K C) (hm : Meth X.K C m f) (F : FnOk X.prog X.w X.K X.mg X.base CX k f fd ps sp) (hr : Room k X.A) (hb : Binds X.K fd ps []) (hx : ∀ σ, PassesAt CX X σ (E σ))
    (ht : eval (.Call (.Attribute o m apos) [] [] pos) X.env = (do
      let ov ← eval o X.env
      standAt apos.atName
      let (f, first) ← holding [ov] (getMethod ov m pl)
      callWith pos f first (backTo pos (starEach [] X.env)) (backToKw pos (keywordEach [] X.env))) := by rfl) :
    PE X (.Call (.Attribute o m apos) [] [] pos) (tMethS C m sp E ta tNil) := by
  refine ⟨fun pins s σ H Q I h => ?_⟩
  refine PySem.W.methodCall_KW (pl := pl) (thn (he.run pins s σ H _ I h) fun u s1 ⟨x, H1, I1, rx, a, dx, fs, ex, ea, l, q⟩ => ?_) ht
  subst ex
  obtain rfl : u = Value.ref a := rx
  refine getmeth_ok I1 ea c hm l ?_
  exact PySem.W.callWith_K0 (first := [.ref a]) I1.kIn hm.kp (run_fnS (us := [.ref a]) (vs := [.ref a]) F hr hb (hx σ) I1 (.cons rfl .nil) q)
theorem run_makeT {pins : List (Addr × Obj)} {σ : L2.St} {H : Hp} {s : Shared} {Q : VK} {us : List Value} {vs : List V} (M : Mk X.K C f) (F : FnOk X.prog X.w X.K X.mg X.base CX k f fd ps sp) (hr : Room (k + 1) X.A) (hb : Binds X.K fd ps [])
    (hx : PassesAt CX X σ (E σ)) (I : Inv X pins σ H s) (r : Vals vs us)
    (h : ∀ x dx, H x = none → H dx = none → dx ≠ x → sp (.ref x :: vs) (upd (upd H dx (.own x)) x (.ins C dx [])) (fun v H2 => v = .non ∧ Q (.ref x) H2) (E σ)) :
    wpAny (model X.prog X.w) X.A (call (.ref C) us) (EP X pins σ Q) X.xe s := by
  have hq := h (s.heap.objs.size + 1) s.heap.objs.size (I.hok.fresh (Nat.le_succ _)) (I.hok.fresh (Nat.le_refl _)) (Nat.ne_of_lt (Nat.lt_succ_self _))
  have I2 := Inv.made (C := C) I
  have r2 : Vals (V.ref (s.heap.objs.size + 1) :: vs) (Value.ref (s.heap.objs.size + 1) :: us) := .cons rfl r
  have hl : (Value.ref (s.heap.objs.size + 1) :: us).length = ps.length := by
    have e := r2.length
    rw [F.len _ _ _ _ hq] at e
    exact e.symm
  have b := hb _ (Value.ref (s.heap.objs.size + 1) :: us) I2.kIn (by rw [List.append_nil]; exact hl)
  rw [List.append_nil] at b
  refine wpAny_call (make_map (f := f) I.kIn M.makes M.init (beq_iff_eq.mp M.fn) (codeAny_mono (F.run _ X.stack _ _ ⟨Value.ref (s.heap.objs.size + 1) :: us, []⟩ (Value.ref (s.heap.objs.size + 1) :: us) _ _ (E σ) (hr.make C us [])
    (I2.env0.make C us []) b r2 hq) fun r s' hq' => ?_))
  cases r with
  | error e => exact hx pins _ _ e s' I2 hq'
  | ok fl =>
    cases fl with
    | ret u =>
      obtain ⟨v, H', I3, rv, ev, q3⟩ := I2.after hq'
      subst ev
      exact ⟨rv, ⟨V.ref (s.heap.objs.size + 1), H', I3, rfl, q3⟩⟩
    | next => exact False.elim hq'
    | brk => exact False.elim hq'
    | cont => exact False.elim hq'
theorem pe_makeT (M : Mk X.K C f) (F : FnOk X.prog X.w X.K X.mg X.base CX k f fd ps sp) (hr : Room (k + 1) X.A) (hg : Gl X x) (hm : X.mg x = some (.ref C)) (hb : Binds X.K fd ps []) (hx : ∀ σ, PassesAt CX X σ (E σ))
    (ha : PA X (e :: es) t) (hdb : (x == ("__debug__" : Str)) = false := by decide) (he : starEach (e :: es) X.env = (false, eval e X.env) :: starEach es X.env := by rfl) (hpl : (backTo pos (starEach es X.env)).any (·.1) = false := by rfl) :
    PE X (.Call (.Name x p) (e :: es) [] pos) (tMakeS C sp E t) := by
  refine ⟨fun pins s σ H Q I h => ?_⟩
  refine wpAny_Call_Name_kw (ld_glob I hg hm ?_ hdb)
  refine PySem.W.callWith_K (h₀ := X.base) I.ok.mod.kin M.kp (thn (ha.run pos pins s σ H _ I h) fun us s1 ⟨vs, H1, I1, r, q⟩ => ⟨I1.kIn, ?_⟩) he hpl
  exact run_makeT M F hr hb (hx σ) I1 r q
end
section
variable {g : G} {E : EX}
/-! ### methods of the track in a slot -/
def methB (c : AE) (ρ : List Sl) : Sl → Res D
  | .pin (.trk _ _) => c ρ
  | _ => .bad
def aMeth (i : Nat) (f : Fn) (q : AA) : AE := fun ρ => methB (aCall f (aaPin i q)) ρ (sl ρ i)
theorem look_meth {m : Str} (h1 : (m == ("here" : Str)) = false) (h2 : (m == ("past" : Str)) = false) (vh : V) (p : Addr) : (trkF vh p).lookup m = none := by
  show List.lookup m [(("here" : Str), vh), ("past", .ref p)] = _
  simp [List.lookup, h1, h2]
theorem se_meth {i n : Nat} {m : Str} {f : Fn} {t : TA} {q : AA} (hq : SA g E t q) (hn : ∀ ρ xs ρ', q ρ = .ok xs ρ' → xs.length = n) (h1 : (m == ("here" : Str)) = false) (h2 : (m == ("past" : Str)) = false) : SE g E (tMethS g.C m (spG g (n + 1) f) E (tVar i) t) (aMeth i f q) := fun s Q ok h => by
  unfold aMeth at h
  have key : ∀ x, sl s.ρ i = x → Aft g E s (methB (aCall f (aaPin i q)) s.ρ x) (fun d t => ∀ v, Rep g.K t.F v d → Q v t.H) → tMethS g.C m (spG g (n + 1) f) E (tVar i) t s.σ s.H Q := by
    intro x e h
    unfold methB at h
    split at h
    · rename_i hd past
      obtain ⟨a, dx, vh, p, vs, hσ, ne, ha, hp, rh, rp⟩ := trk_at ok e
      have hc := se_call (f := f) (n := n + 1) (sa_pin (i := i) hq) (fun s xs ρ e2 => by
        unfold aaPin at e2
        split at e2
        · obtain ⟨ys, ρ2, e3, e4⟩ := bind_ok e2
          have e4 : Res.ok (Sum.inr i :: ys : List Arg) ρ2 = .ok xs ρ := e4
          cases e4
          exact congrArg (· + 1) (hn _ _ _ e3)
        · cases e2) s Q ok h
      obtain ⟨v, hv, hc⟩ := hc
      rw [hσ] at hv
      cases hv
      exact ⟨_, hσ, a, dx, trkF vh p, rfl, ha, look_meth h1 h2 vh p, hc⟩
    · exact h.elim
  exact key _ rfl h
/-! ### what stands beside a state: made by a def that knows none of its names -/
structure Beside (s t : S) : Prop where
  f : Ex s.F t.F
  keep : ∀ a o, s.H a = some o → t.H a = some o
  fr : ∀ a, s.H a ≠ none → s.F a = none → t.F a = none
  own : ∀ a, t.W a → s.H a = none
theorem Beside.sl {s t : S} (ok : s.Ok g) (b : Beside s t) {P : Addr → Prop} (hP : ∀ a, P a → s.W a) {o : Option V} {x : Sl} (h : SlOk g s.F s.H P o x) : SlOk g t.F t.H P o x :=
  h.keep b.f (fun a ha hne => by
    cases e : s.H a with
    | none => exact absurd e hne
    | some u => exact b.keep a u e) fun _ q => q
theorem Beside.back {s t : S} (ok : s.Ok g) (okt : t.Ok g) (b : Beside s t) : (S.mk t.F t.H s.W s.σ s.ρ).Ok g ∧ Go s ⟨t.F, t.H, s.W, s.σ, s.ρ⟩ := by
  obtain ⟨O, h1, h2, h3⟩ := ok.sl
  refine ⟨⟨okt.ex, fun a ha => ?_, ok.len, O, h1, h2, fun j x hj => b.sl ok (h1 j) (h3 j x hj)⟩, ⟨b.f, fun a o ha _ => b.keep a o ha, fun a q1 q2 _ => b.fr a q1 q2, fun a ha => .inl ha, fun i m h => ⟨rfl, m, h⟩⟩⟩
  obtain ⟨q1, q2⟩ := ok.fw a ha
  refine ⟨b.fr a q2 q1, ?_⟩
  cases e : s.H a with
  | none => exact absurd e q2
  | some o => show t.H a ≠ none; rw [b.keep a o e]; exact fun q => nomatch q
theorem Beside.adopt {s t : S} (ok : s.Ok g) (okt : t.Ok g) (b : Beside s t) {i k : Nat} {m : Mu} {v : V} (hi : i < s.ρ.length) (hn : noPin (DL.sl s.ρ i) = true) (hk : t.ρ[k]? = some (.pin m)) (hv : t.σ[k]? = some (some v)) :
    (S.mk t.F t.H (fun a => s.W a ∨ t.W a) (s.σ.set i (some v)) (s.ρ.set i (.pin m))).Ok g ∧ Go s ⟨t.F, t.H, fun a => s.W a ∨ t.W a, s.σ.set i (some v), s.ρ.set i (.pin m)⟩ := by
  obtain ⟨O, h1, h2, h3⟩ := ok.sl
  obtain ⟨Ot, t1, t2, t3⟩ := okt.sl
  have hi' : i < s.σ.length := by rw [ok.len]; exact hi
  have dis : ∀ a, s.W a → ¬ t.W a := fun a h q => (ok.fw a h).2 (b.own a q)
  obtain ⟨okb, gob⟩ := b.back ok okt
  refine ⟨⟨okt.ex, fun a ha => ?_, by show (s.σ.set i _).length = (s.ρ.set i _).length; rw [List.length_set, List.length_set]; exact ok.len, fun j a => if j = i then Ot k a else O j a, fun j a ha => ?_, fun j l a ha hb => ?_, fun j x hj => ?_⟩, ⟨b.f, fun a o ha _ => b.keep a o ha, fun a q1 q2 _ => b.fr a q1 q2, fun a ha => ?_, fun j n hj => ?_⟩⟩
  · rcases (show s.W a ∨ t.W a from ha) with ha | ha
    · exact okb.fw a ha
    · exact okt.fw a ha
  · dsimp only at ha
    split at ha
    · exact .inr (t1 k a ha)
    · exact .inl (h1 j a ha)
  · dsimp only at ha hb
    split at ha <;> split at hb
    · rename_i e1 e2; rw [e1, e2]
    · exact absurd (t1 k a ha) (dis a (h1 l a hb))
    · exact absurd (t1 k a hb) (dis a (h1 j a ha))
    · exact h2 j l a ha hb
  · have hj : (s.ρ.set i (.pin m))[j]? = some x := hj
    show SlOk g t.F t.H (fun a => if j = i then Ot k a else O j a) ((s.σ.set i (some v))[j]?.join) x
    by_cases c : i = j
    · subst c
      rw [List.getElem?_set_self hi] at hj
      cases hj
      rw [List.getElem?_set_self hi']
      have := t3 k _ hk
      rw [hv] at this
      exact SlOk.keep (.refl _) (fun _ _ _ => rfl) (fun a q => by rw [if_pos rfl]; exact q) this
    · rw [List.getElem?_set_ne c] at hj ⊢
      exact SlOk.keep (.refl _) (fun _ _ _ => rfl) (fun a q => by rw [if_neg (Ne.symm c)]; exact q) (b.sl ok (h1 j) (h3 j x hj))
  · rcases (show s.W a ∨ t.W a from ha) with ha | ha
    · exact .inl ha
    · exact .inr (b.own a ha)
  · have c : i ≠ j := fun c => by
      subst c
      rw [sl_of hj] at hn
      cases hn
    refine ⟨?_, n, ?_⟩
    · show (s.σ.set i _)[j]? = _
      rw [List.getElem?_set_ne c]
    · show (s.ρ.set i _)[j]? = _
      rw [List.getElem?_set_ne c]; exact hj
theorem putPins_dat : ∀ (ds : List D) (r ρ : List Sl), putPins (ds.map Sum.inl) r ρ = ρ
  | [], _, _ => by simp [putPins]
  | d :: ds, [], ρ => by simp [putPins]
  | d :: ds, x :: r, ρ => by
    show putPins (ds.map Sum.inl) r ρ = ρ
    exact putPins_dat ds r ρ
theorem argL_dat {t : S} : ∀ {vs : List V} {ds : List D}, RepL g.K t.F vs ds → ArgL g t vs (ds.map Sum.inl)
  | _, _, .nil => .nil
  | _, _, .cons h r => .cons h (argL_dat r)
theorem pinsOk_dat : ∀ (ds : List D) (seen : List Nat), pinsOk seen (ds.map Sum.inl) = true
  | [], _ => rfl
  | d :: ds, seen => pinsOk_dat ds seen
theorem argS_dat (ρ : List Sl) : ∀ ds : List D, (ds.map (Sum.inl : D → Arg)).map (argS ρ) = ds.map Sl.dat := fun ds => by rw [List.map_map]; rfl
/-- a new instance beside s, as its __init__ sees it; what it is behind that -/
theorem make_start {s : S} {vs : List V} {ds : List D} (ok : s.Ok g) (r : RepL g.K s.F vs ds) {x dx : Addr} (hx : s.H x = none) (hd : s.H dx = none) (ne : dx ≠ x) :
    ∃ W, (S.mk s.F (upd (upd s.H dx (.own x)) x (.ins g.C dx [])) W ((V.ref x :: vs).map some) (.pin .raw :: ds.map .dat)).Ok g ∧ ∀ u : S, u.σ = (V.ref x :: vs).map some → u.Ok g → Go ⟨s.F, upd (upd s.H dx (.own x)) x (.ins g.C dx []), W, (V.ref x :: vs).map some, .pin .raw :: ds.map .dat⟩ u →
      ∀ y ss, u.ρ = y :: ss → ∃ W', (S.mk u.F u.H W' [some (V.ref x)] [y]).Ok g ∧ Beside s ⟨u.F, u.H, W', [some (V.ref x)], [y]⟩ := by
  obtain ⟨H2, hH2⟩ : ∃ H2, H2 = upd (upd s.H dx (.own x)) x (.ins g.C dx []) := ⟨_, rfl⟩
  rw [← hH2]
  have old : ∀ a o, s.H a = some o → H2 a = some o := fun a o h => by
    rw [hH2, upd_ne (ne_of_none h hx), upd_ne (ne_of_none h hd)]; exact h
  have xx : H2 x = some (.ins g.C dx []) := by rw [hH2]; exact upd_same
  have ok0 : (S.mk s.F H2 (fun a => a = x) [some (V.ref x)] [.pin .raw]).Ok g := by
    refine ⟨fun a o h => old a o (ok.ex a o h), fun a ha => ?_, rfl, fun i a => i = 0 ∧ a = x, fun i a h => h.2, fun i j a h1 h2 => h1.1.trans h2.1.symm, fun i y hy => ?_⟩
    · have ha : a = x := ha
      subst ha
      exact ⟨ok.ex.free hx, by show H2 a ≠ none; rw [xx]; exact fun q => nomatch q⟩
    · cases i with
      | zero => cases (show some (Sl.pin .raw) = some y from hy); exact ⟨x, dx, rfl, ⟨rfl, rfl⟩, xx⟩
      | succ i => simp at hy
  have ar : ArgL g (S.mk s.F H2 (fun a => a = x) [some (V.ref x)] [.pin .raw]) (V.ref x :: vs) (Sum.inr 0 :: ds.map Sum.inl) := .cons ⟨rfl, .raw, rfl⟩ (argL_dat r)
  obtain ⟨W, o1, o2⟩ := call_start ok0 ar (by show (!([] : List Nat).contains 0 && pinsOk [0] (ds.map Sum.inl)) = true; rw [pinsOk_dat]; rfl)
  have es : (Sum.inr 0 :: ds.map Sum.inl).map (argS [.pin .raw]) = .pin .raw :: ds.map .dat := by
    rw [List.map_cons, argS_dat]; rfl
  rw [show (S.mk s.F H2 (fun a => a = x) [some (V.ref x)] [.pin .raw]).ρ = [.pin .raw] from rfl, es] at o1 o2
  refine ⟨W, o1, fun u eu oku go y ss hy => ?_⟩
  obtain ⟨W', q1, q2⟩ := o2 u eu oku go
  have ep : putPins (Sum.inr 0 :: ds.map Sum.inl) u.ρ [.pin .raw] = [y] := by
    rw [hy]
    show putPins (ds.map Sum.inl) ss ([Sl.pin .raw].set 0 y) = _
    rw [putPins_dat]; rfl
  rw [ep] at q1 q2
  have back : ∀ a, H2 a = none → s.H a = none := fun a e => by
    cases e2 : s.H a with
    | none => rfl
    | some o => rw [old a o e2] at e; cases e
  refine ⟨W', q1, ⟨q2.f, fun a o h => ?_, fun a h1 h2 => ?_, fun a h => ?_⟩⟩
  · refine q2.keep a o (old a o h) fun e => ?_
    have e : a = x := e
    rw [e, hx] at h
    cases h
  · refine q2.fr a (fun q => h1 (back a q)) h2 fun e => ?_
    have e : a = x := e
    exact h1 (by rw [e]; exact hx)
  · rcases q2.own a h with e | e
    · have e : a = x := e
      rw [e]; exact hx
    · exact back a e
/-! ### x = Track(..) -/
def makeR (i : Nat) (ρ : List Sl) : FRes → SRes
  | .ok .none (.pin m :: _) => .nx (ρ.set i (.pin m))
  | .exc e (_ :: _) => .exc e ρ
  | _ => .bad
def makeB (i : Nat) (f : Fn) (ds : List D) (ρ : List Sl) : SRes := if noPin (sl ρ i) = true ∧ i < ρ.length then makeR i ρ (f (.pin .raw :: ds.map .dat)) else .bad
def asMake (i : Nat) (f : Fn) (q : AD) : AS := fun ρ => (q ρ).thn (makeB i f)
theorem repL_len {K : Fr} {F : Hp} {vs : List V} {ds : List D} (r : RepL K F vs ds) : vs.length = ds.length := r.length
theorem ss_make {i n : Nat} {f : Fn} {t : TA} {q : AD} (hq : SD g E t q) (hn : ∀ ρ ds ρ', q ρ = .ok ds ρ' → ds.length = n) : SS g E (tAsg (tMakeS g.C (spG g (n + 1) f) E t) (gName i)) (asMake i f q) := fun s N ok h => by
  have h1 := AftS.thn (show AftS g E s ((q s.ρ).thn (makeB i f)) (KE.of g N) from h)
  cases eq : q s.ρ with
  | bad => rw [eq] at h1; exact h1.elim
  | exc e ρ => 
    refine hq s _ ok ?_
    rw [eq] at h1 ⊢
    exact h1
  | ok ds ρ =>
    have hlen := hn _ _ _ eq
    refine hq s _ ok ?_
    rw [eq] at h1 ⊢
    intro F H W ok1 go1 vs rv x dx hx hd ne
    have k : AftS g E ⟨F, H, W, s.σ, ρ⟩ (makeB i f ds ρ) (KE.of g N) := h1 F H W ok1 go1
    unfold makeB at k
    split at k
    case isFalse => exact k.elim
    rename_i hc
    obtain ⟨W0, o1, o2⟩ := make_start (s := ⟨F, H, W, s.σ, ρ⟩) ok1 rv hx hd ne
    refine ⟨by rw [List.length_cons, repL_len rv, hlen], F, W0, _, o1, ?_⟩
    unfold makeR at k
    split at k
    · rename_i m ss ef
      rw [ef]
      intro v u eu eρ oku go rvv
      obtain ⟨W', z1, z2⟩ := o2 u eu oku go _ _ eρ
      refine ⟨rvv.non_inv, ?_⟩
      obtain ⟨a1, a2⟩ := z2.adopt (s := ⟨F, H, W, s.σ, ρ⟩) (i := i) (k := 0) ok1 z1 hc.2 hc.1 rfl rfl
      exact k _ rfl a1 a2
    · rename_i e y ss ef
      rw [ef]
      intro u eu eρ oku go
      obtain ⟨W', z1, z2⟩ := o2 u eu oku go _ _ eρ
      obtain ⟨a1, a2⟩ := z2.back (s := ⟨F, H, W, s.σ, ρ⟩) ok1 z1
      exact k _ rfl a1 a2
    · exact k.elim
/-! ### Track(..).m() -/
def tmp2 (ρ : List Sl) : FRes → Res D
  | .ok d (_ :: _) => .ok d ρ
  | .exc e (_ :: _) => .exc e ρ
  | _ => .bad
def tmpR (f1 : Fn) (ρ : List Sl) : FRes → Res D
  | .ok .none (.pin (.trk h p) :: _) => tmp2 ρ (f1 [.pin (.trk h p)])
  | .exc e (_ :: _) => .exc e ρ
  | _ => .bad
def tmpB (f0 f1 : Fn) (ds : List D) (ρ : List Sl) : Res D := tmpR f1 ρ (f0 (.pin .raw :: ds.map .dat))
def aTmp (f0 f1 : Fn) (q : AD) : AE := fun ρ => (q ρ).bind (tmpB f0 f1)
theorem se_tmp {n : Nat} {m : Str} {f0 f1 : Fn} {t : TA} {q : AD} (hq : SD g E t q) (hn : ∀ ρ ds ρ', q ρ = .ok ds ρ' → ds.length = n) (h1 : (m == ("here" : Str)) = false) (h2 : (m == ("past" : Str)) = false) :
    SE g E (tMethS g.C m (spG g 1 f1) E (tMakeS g.C (spG g (n + 1) f0) E t) tNil) (aTmp f0 f1 q) := fun s Q ok h => by
  have hh := Aft.bind (show Aft g E s ((q s.ρ).bind (tmpB f0 f1)) _ from h)
  cases eq : q s.ρ with
  | bad => rw [eq] at hh; exact hh.elim
  | exc e ρ =>
    refine hq s _ ok ?_
    rw [eq] at hh ⊢
    exact hh
  | ok ds ρ =>
    have hlen := hn _ _ _ eq
    refine hq s _ ok ?_
    rw [eq] at hh ⊢
    intro F H W ok1 go1 vs rv x dx hx hd ne
    have k : Aft g E ⟨F, H, W, s.σ, ρ⟩ (tmpB f0 f1 ds ρ) (fun d t => ∀ v, Rep g.K t.F v d → Q v t.H) := hh F H W ok1 go1
    unfold tmpB at k
    obtain ⟨W0, o1, o2⟩ := make_start (s := ⟨F, H, W, s.σ, ρ⟩) ok1 rv hx hd ne
    refine ⟨by rw [List.length_cons, repL_len rv, hlen], F, W0, _, o1, ?_⟩
    unfold tmpR at k
    split at k
    · rename_i hd0 past ss ef
      rw [ef]
      intro v u eu eρ oku go rvv
      obtain ⟨W', z1, z2⟩ := o2 u eu oku go _ _ eρ
      refine ⟨rvv.non_inv, ?_⟩
      obtain ⟨a, dx', vh, p', ws, hσ, ne', ha, hp, rh, rp⟩ := trk_at (s := ⟨u.F, u.H, W', [some (V.ref x)], [.pin (.trk hd0 past)]⟩) (i := 0) z1 rfl
      cases hσ
      refine ⟨x, dx', trkF vh p', rfl, ha, look_meth h1 h2 vh p', ?_⟩
      have ar : ArgL g (S.mk u.F u.H W' [some (V.ref x)] [.pin (.trk hd0 past)]) [V.ref x] [Sum.inr 0] := .cons ⟨rfl, _, rfl⟩ .nil
      obtain ⟨W1, c1, c2⟩ := call_start z1 ar rfl
      refine ⟨rfl, u.F, W1, _, c1, ?_⟩
      show match f1 [.pin (.trk hd0 past)] with
        | .ok d ss' => _
        | .exc e ss' => _
        | .bad => False
      have bes : ∀ w : S, w.σ = [V.ref x].map some → w.Ok g → Go ⟨u.F, u.H, W1, [V.ref x].map some, [Sum.inr 0].map (argS [.pin (.trk hd0 past)])⟩ w → ∀ y r, w.ρ = y :: r → (S.mk w.F w.H W s.σ ρ).Ok g ∧ Go ⟨F, H, W, s.σ, ρ⟩ ⟨w.F, w.H, W, s.σ, ρ⟩ := by
        intro w ew okw gow y r ey
        obtain ⟨W2, d1, d2⟩ := c2 w ew okw gow
        refine Beside.back (s := ⟨F, H, W, s.σ, ρ⟩) (t := S.mk w.F w.H W2 [some (V.ref x)] (putPins [Sum.inr 0] w.ρ [.pin (.trk hd0 past)])) ok1 d1 ⟨z2.f.trans d2.f, fun a o hao => ?_, fun a q1 q2 => ?_, fun a q => ?_⟩
        · exact d2.keep a o (z2.keep a o hao) fun q => by
            have z : H a = none := z2.own a q
            rw [show H a = some o from hao] at z
            cases z
        · refine d2.fr a (fun q => ?_) (z2.fr a q1 q2) fun q => q1 (z2.own a q)
          cases e : H a with
          | none => exact q1 e
          | some o => rw [show u.H a = some o from z2.keep a o e] at q; cases q
        · rcases d2.own a q with z | z
          · exact z2.own a z
          · show H a = none
            cases e : H a with
            | none => rfl
            | some o => rw [show u.H a = some o from z2.keep a o e] at z; cases z
      unfold tmp2 at k
      split at k
      · rename_i d y r ef1
        rw [ef1]
        intro v2 w ew eρ2 okw gow rv2
        obtain ⟨b1, b2⟩ := bes w ew okw gow _ _ eρ2
        exact k w.F w.H W b1 b2 v2 rv2
      · rename_i e y r ef1
        rw [ef1]
        intro w ew eρ2 okw gow
        obtain ⟨b1, b2⟩ := bes w ew okw gow _ _ eρ2
        exact k w.F w.H W b1 b2
      · exact k.elim
    · rename_i e y ss ef
      rw [ef]
      intro u eu eρ oku go
      obtain ⟨W', z1, z2⟩ := o2 u eu oku go _ _ eρ
      obtain ⟨a1, a2⟩ := z2.back (s := ⟨F, H, W, s.σ, ρ⟩) ok1 z1
      exact k u.F u.H W a1 a2
    · exact k.elim
end
end DL

/-! Tracks: defs that hand one back; the rules over the syntax. -/
namespace DL
open PySem PySem.Spec PyProof.Rows L2
section
variable {g : G} {E : EX}
/-! ### defs of data that hand back a track -/
def spT (g : G) (n : Nat) (f : Fn) : Sp := fun vs H Q E => vs.length = n ∧ ∃ (F : Hp) (ds : List D), Ex F H ∧ RepL g.K F vs ds ∧ (match f (ds.map .dat) with
  | .ok _ [.pin m] => ∀ v (t : S), t.σ = [some v] → t.ρ = [.pin m] → t.Ok g → Beside ⟨F, H, fun _ => False, [], []⟩ t → Q v t.H
  | .exc e _ => ∀ (t : S), t.Ok g → Beside ⟨F, H, fun _ => False, [], []⟩ t → E (g.cls e) none t.H
  | _ => False)
/-- the last statement hands back what stands in the slot i -/
def SSR (g : G) (E : EX) (ts : TS) (b : AS) (i : Nat) : Prop := ∀ (s : S) (N : Ends), s.Ok g → AftS g E s (b s.ρ) { nx := fun t => ∀ v, t.σ[i]? = some (some v) → N.rt v t.H, rt := fun _ _ => False, bk := fun _ => False, ct := fun _ => False } → ts N s.σ s.H
def asRetP (i : Nat) : AS := fun ρ => if isPin (sl ρ i) = true then .nx ρ else .bad
theorem ssr_ret {i : Nat} : SSR g E (tRet (tVar i)) (asRetP i) i := fun s N ok h => by
  unfold asRetP at h
  split at h
  · rename_i c
    obtain ⟨m, e⟩ := isPin_of c
    obtain ⟨v, hv, _⟩ := pin_at ok e
    exact ⟨v, hv, h s rfl ok (Go.refl s) v hv⟩
  · exact h.elim
theorem ssr_seq {i : Nat} {t u : TS} {a b : AS} (ha : SS g E t a) (hb : SSR g E u b i) : SSR g E (tSeq t u) (asSeq a b) i := fun s N ok h => by
  have h1 := AftS.seq (f := b) (show AftS g E s ((a s.ρ).seq b) _ from h)
  refine ha s { N with nx := u N } ok (AftS.mono ?_ ?_ ?_ ?_ h1)
  · exact fun t okt _ k => hb t N okt k
  · exact fun _ _ _ _ k => k.elim
  · exact fun _ _ _ k => k.elim
  · exact fun _ _ _ k => k.elim
def outT (i : Nat) : SRes → FRes
  | .nx ρ => (match sl ρ i with | .pin m => .ok .none [.pin m] | _ => .bad)
  | .exc e _ => .exc e []
  | _ => .bad
def runT (n m i : Nat) (b : AS) : Fn := fun ss => outT i (b (ss ++ List.replicate (m - n) .none))
theorem fn_bodyT {P : Program} {w : World} {mg : Str → Option Value} {base : Heap} {x qual : Str} {st : Stmt} {f : Addr} {fd : FuncData} {N ps : List Str} {k n i : Nat} {b : AS} (F : Fun g.K x qual st f fd) (S0 : FnScope N ps (defScope st)) (hn : ps.length = n)
    (h : ∀ (cdv : Value) (A : Around) (outer : List Env) (s : Shared) (H : Hp) (E : XK), Room k (A.deeper (envOfC qual (defScope st) s.heap.objs.size f cdv)) →
      ∃ t, PSs (cxOf (L2.CX P w) P w g.K mg base N qual (defScope st) f cdv A outer s H E) (defBody st) t ∧ SSR g (fun _ => E) t b i) : FnOk P w g.K mg base (L2.CX P w) (k + 1) f fd ps (spT g n (runT n N.length i b)) := by
  refine F.okX S0 (fun vs H Q E hs => hs.1.trans hn.symm) (fun cdv A outer s H vs Q E hr hs => ?_)
  obtain ⟨hl, F0, ds, ex, rv, hm⟩ := hs
  obtain ⟨t, hp, hb⟩ := h cdv A outer s H E hr
  refine ⟨t, hp, ?_⟩
  have ok0 : (S.mk F0 H (fun _ => False) (vs.map some) (ds.map .dat)).Ok g := by
    refine ⟨ex, fun _ q => q.elim, by show (vs.map some).length = (ds.map Sl.dat).length; rw [List.length_map, List.length_map]; exact repL_len rv, fun _ _ => False, fun _ _ q => q, fun _ _ _ q => q.elim, fun j y hy => ?_⟩
    have hy : (ds.map Sl.dat)[j]? = some y := hy
    rw [List.getElem?_map] at hy
    obtain ⟨d, hd, rfl⟩ := Option.map_eq_some_iff.mp hy
    obtain ⟨v, q1, q2⟩ := rv.get hd
    show SlOk g F0 H _ ((vs.map some)[j]?.join) (.dat d)
    rw [List.getElem?_map, q1]
    exact ⟨v, rfl, q2⟩
  have oks := fn_start (N.length - n) ok0
  have es : L2.start N vs = vs.map some ++ List.replicate (N.length - n) none := by unfold L2.start; rw [hl]
  rw [es]
  have bes : ∀ u : S, Go ⟨F0, H, fun _ => False, vs.map some ++ List.replicate (N.length - n) none, ds.map .dat ++ List.replicate (N.length - n) .none⟩ u → ∀ (W : Addr → Prop), (∀ a, W a → u.W a) → ∀ σ ρ, Beside ⟨F0, H, fun _ => False, [], []⟩ ⟨u.F, u.H, W, σ, ρ⟩ := fun u go W hW σ ρ =>
    ⟨go.f, fun a o h => go.keep a o h fun q => q, fun a h1 h2 => go.fr a h1 h2 fun q => q, fun a h => by
      rcases go.own a (hW a h) with z | z
      · exact z.elim
      · exact z⟩
  refine hb ⟨F0, H, fun _ => False, vs.map some ++ List.replicate (N.length - n) none, ds.map .dat ++ List.replicate (N.length - n) .none⟩ _ oks ?_
  show AftS g _ _ (b (ds.map .dat ++ List.replicate (N.length - n) .none)) _
  unfold runT at hm
  cases e : b (ds.map .dat ++ List.replicate (N.length - n) .none) with
  | nx ρ =>
    rw [e] at hm
    unfold outT at hm
    dsimp only at hm
    split at hm
    · rename_i d m eq
      split at eq
      · rename_i m' em
        cases eq
        intro u eu oku gou v hv
        subst eu
        obtain ⟨O, o1, o2, o3⟩ := oku.sl
        have hpin := o3 i _ (sl_get em fun q => nomatch q)
        rw [hv] at hpin
        refine hm v ⟨u.F, u.H, O i, [some v], [.pin m]⟩ rfl rfl ⟨oku.ex, fun a q => oku.fw a (o1 i a q), rfl, fun j a => j = 0 ∧ O i a, fun j a q => q.2, fun j l a q r => q.1.trans r.1.symm, fun j y hy => ?_⟩ (bes u gou _ (fun a q => o1 i a q) _ _)
        cases j with
        | zero =>
          cases (show some (Sl.pin m) = some y from hy)
          exact SlOk.keep (.refl _) (fun _ _ _ => rfl) (fun a q => ⟨rfl, q⟩) hpin
        | succ j => simp at hy
      · cases eq
    · rename_i e2 r eq
      split at eq <;> cases eq
    · exact hm.elim
  | exc x ρ =>
    rw [e] at hm
    intro u eu oku gou
    have := hm ⟨u.F, u.H, fun _ => False, [], []⟩ ⟨oku.ex, fun _ q => q.elim, rfl, fun _ _ => False, fun _ _ q => q, fun _ _ _ q => q.elim, fun j y hy => by simp at hy⟩ (bes u gou _ (fun a q => q.elim) _ _)
    exact this
  | rt d ρ => rw [e] at hm; exact hm.elim
  | bk ρ => rw [e] at hm; exact hm.elim
  | ct ρ => rw [e] at hm; exact hm.elim
  | bad => rw [e] at hm; exact hm.elim
/-! x = f(..) -/
def callTR (i : Nat) (ρ : List Sl) : FRes → SRes
  | .ok _ [.pin m] => .nx (ρ.set i (.pin m))
  | .exc e _ => .exc e ρ
  | _ => .bad
def callTB (i : Nat) (f : Fn) (ds : List D) (ρ : List Sl) : SRes := if noPin (sl ρ i) = true ∧ i < ρ.length then callTR i ρ (f (ds.map .dat)) else .bad
def asCallT (i : Nat) (f : Fn) (q : AD) : AS := fun ρ => (q ρ).thn (callTB i f)
theorem ss_callT {i n : Nat} {f : Fn} {t : TA} {q : AD} (hq : SD g E t q) (hn : ∀ ρ ds ρ', q ρ = .ok ds ρ' → ds.length = n) : SS g E (tAsg (tCallS (spT g n f) E t) (gName i)) (asCallT i f q) := fun s N ok h => by
  have h1 := AftS.thn (show AftS g E s ((q s.ρ).thn (callTB i f)) (KE.of g N) from h)
  cases eq : q s.ρ with
  | bad => rw [eq] at h1; exact h1.elim
  | exc e ρ =>
    refine hq s _ ok ?_
    rw [eq] at h1 ⊢
    exact h1
  | ok ds ρ =>
    have hlen := hn _ _ _ eq
    refine hq s _ ok ?_
    rw [eq] at h1 ⊢
    intro F H W ok1 go1 vs rv
    have k : AftS g E ⟨F, H, W, s.σ, ρ⟩ (callTB i f ds ρ) (KE.of g N) := h1 F H W ok1 go1
    unfold callTB at k
    split at k
    case isFalse => exact k.elim
    rename_i hc
    have up : ∀ t : S, Beside ⟨F, H, fun _ => False, [], []⟩ t → Beside ⟨F, H, W, s.σ, ρ⟩ t := fun t b => ⟨b.f, b.keep, b.fr, b.own⟩
    refine ⟨by rw [repL_len rv, hlen], F, ds, ok1.ex, rv, ?_⟩
    unfold callTR at k
    split at k
    · rename_i d m ef
      intro v t eσ eρ okt b
      obtain ⟨a1, a2⟩ := (up t b).adopt (s := ⟨F, H, W, s.σ, ρ⟩) (i := i) (k := 0) (m := m) (v := v) ok1 okt hc.2 hc.1 (by rw [eρ]; rfl) (by rw [eσ]; rfl)
      exact k _ rfl a1 a2
    · rename_i e r ef
      intro t okt b
      obtain ⟨a1, a2⟩ := (up t b).back (s := ⟨F, H, W, s.σ, ρ⟩) ok1 okt
      exact k _ rfl a1 a2
    · exact k.elim
end
/-! ### the rules over the syntax -/
structure ClM (P : Program) (w : World) (K : Fr) (mg : Str → Option Value) (base : Heap) (g : G) (k n : Nat) (m : Str) (f : Fn) : Prop where
  ex : ∃ fa fd ps, FnOk P w K mg base (L2.CX P w) k fa fd ps (spG g n f) ∧ Meth K g.C m fa ∧ Binds K fd ps []
structure ClI (P : Program) (w : World) (K : Fr) (mg : Str → Option Value) (base : Heap) (g : G) (k n : Nat) (x : Str) (f : Fn) : Prop where
  ex : ∃ fa fd ps, FnOk P w K mg base (L2.CX P w) k fa fd ps (spG g n f) ∧ Mk K g.C fa ∧ mg x = some (.ref g.C) ∧ Binds K fd ps []
structure ClT (P : Program) (w : World) (K : Fr) (mg : Str → Option Value) (base : Heap) (g : G) (k n : Nat) (x : Str) (f : Fn) : Prop where
  ex : ∃ fa fd ps, FnOk P w K mg base (L2.CX P w) k fa fd ps (spT g n f) ∧ mg x = some (.ref fa) ∧ PySem.W.keepIn K (.ref fa) = true ∧ Binds K fd ps []
/-- how many data -/
structure PDN (X : Cx) (g : G) (E : EX) (es : List Expr) (ta : TA) (a : AD) (n : Nat) : Prop where
  pa : PA X es ta
  sd : SD (g.at X.K) E ta a
  len : ∀ ρ ds ρ', a ρ = .ok ds ρ' → ds.length = n
section
variable {X : Cx} {g : G} {E : EX} {K : Fr}
theorem pdn_nil : PDN X g E [] tNil aNil 0 := ⟨(pdd_nil (X := X) (g := g) (E := E)).pa, (pdd_nil (X := X) (g := g) (E := E)).sd, fun ρ ds ρ' h => by
  have h : Res.ok [] ρ = .ok ds ρ' := h
  cases h; rfl⟩
theorem pdn_cons {e : Expr} {es : List Expr} {te : TE} {t : TA} {α : AE} {q : AD} {n : Nat} (h : PD X g E e te α) (k : PDN X g E es t q n) (hs : starEach (e :: es) X.env = (false, eval e X.env) :: starEach es X.env := by rfl) : PDN X g E (e :: es) (tCons te t) (aCons α q) (n + 1) :=
  ⟨(pdd_cons h ⟨k.pa, k.sd⟩ hs).pa, (pdd_cons h ⟨k.pa, k.sd⟩ hs).sd, fun ρ ds ρ' h1 => by
    unfold aCons at h1
    obtain ⟨d, ρ1, e1, h2⟩ := bind_ok h1
    obtain ⟨r, ρ2, e2, h3⟩ := bind_ok h2
    have h3 : Res.ok (d :: r) ρ2 = .ok ds ρ' := h3
    cases h3
    exact congrArg (· + 1) (k.len _ _ _ e2)⟩
section
variable {x : Str} {i : Nat} {p pos apos : Pos}
theorem pd_here (tk : TrkOk (g.at X.K)) (hn : PE X (.Name x p) (tVar i)) (hb : attributeBase (.Name x p) "here" X.env (eval (.Name x p) X.env) = eval (.Name x p) X.env := by rfl) (hK : X.K = K := by rfl) : PD X g E (.Attribute (.Name x p) "here" pos) (tFld K (tVar i) "here") (aHere i) := by
  subst hK
  exact ⟨pe_fld hn hb, se_here (g := g.at X.K) tk⟩
theorem ptd_past0 {lp : Pos} (tk : TrkOk (g.at X.K)) (hu : X.A.units + 64 < cLine) (hn : PE X (.Name x p) (tVar i)) (hb : attributeBase (.Name x p) "past" X.env (eval (.Name x p) X.env) = eval (.Name x p) X.env := by rfl) (hK : X.K = K := by rfl) :
    PTD X g E (.Compare (.Attribute (.Name x p) "past" apos) [.Eq] [.List [] lp] pos) (tTest (tOp (rEqD K) (tFld K (tVar i) "past") (tLst tNil))) (aTest (aPast0 i)) := by
  subst hK
  exact ⟨pt_cmpR (op_eqD hu) (pe_fld hn hb) (pe_lst pa_nil) (nomark _), st_test (se_past0 (g := g.at X.K) tk)⟩
theorem pd_pastT {tp : Pos} (tk : TrkOk (g.at X.K)) (hm : X.mg "tuple" = none) (hn : PE X (.Name x p) (tVar i)) (hb : attributeBase (.Name x p) "past" X.env (eval (.Name x p) X.env) = eval (.Name x p) X.env := by rfl) (hg : Gl X "tuple" := by rfl)
    (he : starEach [.Attribute (.Name x p) "past" apos] X.env = (false, eval (.Attribute (.Name x p) "past" apos) X.env) :: starEach [] X.env := by rfl) (hK : X.K = K := by rfl) :
    PD X g E (.Call (.Name "tuple" tp) [.Attribute (.Name x p) "past" apos] [] pos) (tCB (fun xs H Q => ∃ p ys, xs = [.ref p] ∧ ((SqL K H p ys ∧ ∀ l, H l = none → Q (.ref l) (upd H l (.tup ys))) ∨ (SqT K H p ys ∧ Q (.ref p) H))) (tCons (tFld K (tVar i) "past") tNil)) (aPastT i) := by
  subst hK
  exact ⟨pe_callTy call_tuple_of hg hm bb_tuple (pa_cons (pe_fld hn hb) pa_nil he) (by decide) (by decide) he rfl, se_pastT (g := g.at X.K) tk⟩
theorem psd_push {p2 p3 p4 ep : Pos} (tk : TrkOk (g.at X.K)) (hn : PE X (.Name x p) (tVar i)) (hn2 : PE X (.Name x p2) (tVar i)) (hb : attributeBase (.Name x p) "past" X.env (eval (.Name x p) X.env) = eval (.Name x p) X.env := by rfl) (hb2 : attributeBase (.Name x p2) "here" X.env (eval (.Name x p2) X.env) = eval (.Name x p2) X.env := by rfl)
    (hbase : attributeBase (.Attribute (.Name x p) "past" apos) "append" X.env (eval (.Attribute (.Name x p) "past" apos) X.env) = eval (.Attribute (.Name x p) "past" apos) X.env := by rfl)
    (hfew : ((backTo pos (starEach [.Attribute (.Name x p2) "here" p3] X.env)).all (fun x => !x.1) && (backToKw pos (keywordEach [] X.env)).all (fun x => x.1.isSome) && decide (([.Attribute (.Name x p2) "here" p3] : List Expr).length + ([] : List Keyword).length + (if ([] : List Keyword).isEmpty then 0 else 1) < 30)) = true := by rfl)
    (hline : (p4.endLine == pos.line) = true := by rfl) (hst : starEach [.Attribute (.Name x p2) "here" p3] X.env = (false, eval (.Attribute (.Name x p2) "here" p3) X.env) :: starEach [] X.env := by rfl) (hpl : (backTo pos (starEach [] X.env)).any (·.1) = false := by rfl)
    (hs : swapsWith (.Call (.Attribute (.Attribute (.Name x p) "past" apos) "append" p4) [.Attribute (.Name x p2) "here" p3] [] pos) none ep.line X.env = pure false := by rfl) (hK : X.K = K := by rfl) :
    PSD X g E (.Expr (.Call (.Attribute (.Attribute (.Name x p) "past" apos) "append" p4) [.Attribute (.Name x p2) "here" p3] [] pos) ep) (tDrop (tBM K "list" rAppend (tFld K (tVar i) "past") (tCons (tFld K (tVar i) "here") tNil))) (asPush i) := by
  subst hK
  exact ⟨ps_expr (pe_bm PySem.F.plainAttrs_list PySem.F.slot_list_append PySem.F.type_list_append mt_append (pe_fld hn hb) (pa_cons (pe_fld hn2 hb2) pa_nil hst) hbase hfew hline hst hpl) hs, ss_push (g := g.at X.K) tk⟩
theorem psd_here {value : Expr} {te : TE} {α : AE} (tk : TrkOk (g.at X.K)) (h : PD X g E value te α) (hn : PE X (.Name x p) (tVar i)) (hs : swapsWith value (some (.Attribute (.Name x p) "here" apos)) pos.line X.env = pure false := by rfl) (hK : X.K = K := by rfl) :
    PSD X g E (.Assign [.Attribute (.Name x p) "here" apos] value pos) (sFld K (tVar i) te "here") (asHere i α) := by
  subst hK
  exact ⟨ps_fld hn h.pe hs, ss_here (g := g.at X.K) tk h.se⟩
theorem psd_past0 {lp : Pos} (tk : TrkOk (g.at X.K)) (hn : PE X (.Name x p) (tVar i)) (hs : swapsWith (.List [] lp) (some (.Attribute (.Name x p) "past" apos)) pos.line X.env = pure false := by rfl) (hK : X.K = K := by rfl) :
    PSD X g E (.Assign [.Attribute (.Name x p) "past" apos] (.List [] lp) pos) (sFld K (tVar i) (tLst tNil) "past") (asPast0 i) := by
  subst hK
  exact ⟨ps_fld hn (pe_lst pa_nil) hs, ss_past0 (g := g.at X.K) tk⟩
theorem psd_pastL {e : Expr} {te : TE} {α : AE} {tp cp : Pos} (tk : TrkOk (g.at X.K)) (hm : X.mg "list" = none) (h : PD X g E e te α) (hn : PE X (.Name x p) (tVar i)) (hg : Gl X "list" := by rfl) (he : starEach [e] X.env = (false, eval e X.env) :: starEach [] X.env := by rfl)
    (hs : swapsWith (.Call (.Name "list" tp) [e] [] cp) (some (.Attribute (.Name x p) "past" apos)) pos.line X.env = pure false := by rfl) (hK : X.K = K := by rfl) :
    PSD X g E (.Assign [.Attribute (.Name x p) "past" apos] (.Call (.Name "list" tp) [e] [] cp) pos) (sFld K (tVar i) (tCB (fun xs H Q => ∃ p ys, xs = [.ref p] ∧ (SqL K H p ys ∨ SqT K H p ys) ∧ ∀ l, H l = none → Q (.ref l) (upd H l (.lst ys))) (tCons te tNil)) "past") (asPastL i α) := by
  subst hK
  exact ⟨ps_fld hn (pe_callTy call_list_of hg hm bb_list (pa_cons h.pe pa_nil he) (by decide) (by decide) he rfl) hs, ss_pastL (g := g.at X.K) tk h.se⟩
theorem psd_popH {p2 p3 p4 cp : Pos} (tk : TrkOk (g.at X.K)) (hn : PE X (.Name x p) (tVar i)) (hn2 : PE X (.Name x p2) (tVar i)) (hb : attributeBase (.Name x p2) "past" X.env (eval (.Name x p2) X.env) = eval (.Name x p2) X.env := by rfl)
    (hbase : attributeBase (.Attribute (.Name x p2) "past" p3) "pop" X.env (eval (.Attribute (.Name x p2) "past" p3) X.env) = eval (.Attribute (.Name x p2) "past" p3) X.env := by rfl) (hline : (p4.endLine == cp.line) = true := by rfl)
    (hs : swapsWith (.Call (.Attribute (.Attribute (.Name x p2) "past" p3) "pop" p4) [] [] cp) (some (.Attribute (.Name x p) "here" apos)) pos.line X.env = pure false := by rfl) (hK : X.K = K := by rfl) :
    PSD X g E (.Assign [.Attribute (.Name x p) "here" apos] (.Call (.Attribute (.Attribute (.Name x p2) "past" p3) "pop" p4) [] [] cp) pos) (sFld K (tVar i) (tBM0 K "list" rPop (tFld K (tVar i) "past")) "here") (asPopH i) := by
  subst hK
  exact ⟨ps_fld hn (pe_bm0 PySem.F.plainAttrs_list PySem.F.slot_list_pop PySem.F.type_list_pop mt_pop (pe_fld hn2 hb) hbase hline) hs, ss_popH (g := g.at X.K) tk⟩
/-! methods, making -/
theorem pd_meth {k j n : Nat} {m : Str} {f : Fn} {a : Expr} {es : List Expr} {t : TA} {q : AA} {pl : Sem Bool} (tk : TrkOk (g.at X.K)) (c : ClM X.prog X.w X.K X.mg X.base (g.at X.K) k (n + 1) m f) (hr : Room j X.A) (hx : ∀ σ, PassesAt (L2.CX X.prog X.w) X σ (E σ)) (hn : PE X (.Name x p) (tVar i)) (ha : PAD X g E (a :: es) t q n) (hk : k ≤ j := by decide)
    (h1 : (m == ("here" : Str)) = false := by decide) (h2 : (m == ("past" : Str)) = false := by decide) (he : starEach (a :: es) X.env = (false, eval a X.env) :: starEach es X.env := by rfl) (hpl : (backTo pos (starEach es X.env)).any (·.1) = false := by rfl)
    (ht : eval (.Call (.Attribute (.Name x p) m apos) (a :: es) [] pos) X.env = (do
      let ov ← eval (.Name x p) X.env
      standAt apos.atName
      let (f, first) ← holding [ov] (getMethod ov m pl)
      callWith pos f first (backTo pos (starEach (a :: es) X.env)) (backToKw pos (keywordEach [] X.env))) := by rfl) (hK : X.K = K := by rfl) :
    PD X g E (.Call (.Attribute (.Name x p) m apos) (a :: es) [] pos) (tMethS g.C m (spG (g.at K) (n + 1) f) E (tVar i) t) (aMeth i f q) := by
  subst hK
  obtain ⟨fa, fd, ps, h3, h4, h5⟩ := c.ex
  exact ⟨pe_methT hn tk.cls h4 h3 (hr.mono hk) h5 hx ha.pa he hpl ht, se_meth (g := g.at X.K) ha.sa ha.len h1 h2⟩
theorem pd_meth0 {k j : Nat} {m : Str} {f : Fn} {pl : Sem Bool} (tk : TrkOk (g.at X.K)) (c : ClM X.prog X.w X.K X.mg X.base (g.at X.K) k 1 m f) (hr : Room j X.A) (hx : ∀ σ, PassesAt (L2.CX X.prog X.w) X σ (E σ)) (hn : PE X (.Name x p) (tVar i)) (hk : k ≤ j := by decide)
    (h1 : (m == ("here" : Str)) = false := by decide) (h2 : (m == ("past" : Str)) = false := by decide)
    (ht : eval (.Call (.Attribute (.Name x p) m apos) [] [] pos) X.env = (do
      let ov ← eval (.Name x p) X.env
      standAt apos.atName
      let (f, first) ← holding [ov] (getMethod ov m pl)
      callWith pos f first (backTo pos (starEach [] X.env)) (backToKw pos (keywordEach [] X.env))) := by rfl) (hK : X.K = K := by rfl) :
    PD X g E (.Call (.Attribute (.Name x p) m apos) [] [] pos) (tMethS g.C m (spG (g.at K) 1 f) E (tVar i) tNil) (aMeth i f aaNil) := by
  subst hK
  obtain ⟨fa, fd, ps, h3, h4, h5⟩ := c.ex
  exact ⟨pe_methT0 hn tk.cls h4 h3 (hr.mono hk) h5 hx ht, se_meth (g := g.at X.K) (n := 0) sa_nil (fun ρ xs ρ' h => by
    have h : Res.ok [] ρ = .ok xs ρ' := h
    cases h; rfl) h1 h2⟩
theorem psd_make {k j n : Nat} {y : Str} {py cp : Pos} {f : Fn} {a : Expr} {es : List Expr} {t : TA} {q : AD} (c : ClI X.prog X.w X.K X.mg X.base (g.at X.K) k (n + 1) x f) (hr : Room j X.A) (hx : ∀ σ, PassesAt (L2.CX X.prog X.w) X σ (E σ)) (ha : PDN X g E (a :: es) t q n) (hN : X.N.Nodup) (hk : k + 1 ≤ j := by decide)
    (hi : X.N[i]? = some y := by rfl) (hy : Loc X.env.scope y := by first | exact .inl rfl | exact .inr rfl) (hf : X.fn y = true ∨ X.env.scope.names.lookup y = some .local := by first | exact .inl rfl | exact .inr rfl | assumption) (hg : Gl X x := by rfl)
    (hdb : (x == ("__debug__" : Str)) = false := by decide) (he : starEach (a :: es) X.env = (false, eval a X.env) :: starEach es X.env := by rfl) (hpl : (backTo cp (starEach es X.env)).any (·.1) = false := by rfl)
    (hs : swapsWithSole [.Name y py] (.Call (.Name x p) (a :: es) [] cp) pos.line X.env = pure false := by rfl) (hw : swappedStores [.Name y py] (.Call (.Name x p) (a :: es) [] cp) X.env = pure none := by rfl) (hK : X.K = K := by rfl) :
    PSD X g E (.Assign [.Name y py] (.Call (.Name x p) (a :: es) [] cp) pos) (tAsg (tMakeS g.C (spG (g.at K) (n + 1) f) E t) (gName i)) (asMake i f q) := by
  subst hK
  obtain ⟨fa, fd, ps, h3, h4, h5, h6⟩ := c.ex
  exact ⟨ps_asg (pe_makeT h4 h3 (hr.mono hk) hg h5 h6 hx ha.pa hdb he hpl) (pg_name hN hi hy hf) hs hw, ss_make (g := g.at X.K) ha.sd ha.len⟩
theorem pd_tmp {k k2 j n : Nat} {m : Str} {cp : Pos} {f f1 : Fn} {a : Expr} {es : List Expr} {t : TA} {q : AD} {pl : Sem Bool} (tk : TrkOk (g.at X.K)) (c : ClI X.prog X.w X.K X.mg X.base (g.at X.K) k (n + 1) x f) (c2 : ClM X.prog X.w X.K X.mg X.base (g.at X.K) k2 1 m f1) (hr : Room j X.A) (hx : ∀ σ, PassesAt (L2.CX X.prog X.w) X σ (E σ)) (ha : PDN X g E (a :: es) t q n)
    (hk : k + 1 ≤ j := by decide) (hk2 : k2 ≤ j := by decide) (h1 : (m == ("here" : Str)) = false := by decide) (h2 : (m == ("past" : Str)) = false := by decide) (hg : Gl X x := by rfl)
    (hdb : (x == ("__debug__" : Str)) = false := by decide) (he : starEach (a :: es) X.env = (false, eval a X.env) :: starEach es X.env := by rfl) (hpl : (backTo cp (starEach es X.env)).any (·.1) = false := by rfl)
    (ht : eval (.Call (.Attribute (.Call (.Name x p) (a :: es) [] cp) m apos) [] [] pos) X.env = (do
      let ov ← eval (.Call (.Name x p) (a :: es) [] cp) X.env
      standAt apos.atName
      let (f, first) ← holding [ov] (getMethod ov m pl)
      callWith pos f first (backTo pos (starEach [] X.env)) (backToKw pos (keywordEach [] X.env))) := by rfl) (hK : X.K = K := by rfl) :
    PD X g E (.Call (.Attribute (.Call (.Name x p) (a :: es) [] cp) m apos) [] [] pos) (tMethS g.C m (spG (g.at K) 1 f1) E (tMakeS g.C (spG (g.at K) (n + 1) f) E t) tNil) (aTmp f f1 q) := by
  subst hK
  obtain ⟨fa, fd, ps, h3, h4, h5, h6⟩ := c.ex
  obtain ⟨fb, fe, ps2, g3, g4, g5⟩ := c2.ex
  exact ⟨pe_methT0 (pe_makeT h4 h3 (hr.mono hk) hg h5 h6 hx ha.pa hdb he hpl) tk.cls g4 g3 (hr.mono hk2) g5 hx ht, se_tmp (g := g.at X.K) ha.sd ha.len h1 h2⟩
theorem psd_callT {k j n : Nat} {y : Str} {py cp : Pos} {f : Fn} {a : Expr} {es : List Expr} {t : TA} {q : AD} (c : ClT X.prog X.w X.K X.mg X.base (g.at X.K) k n x f) (hr : Room j X.A) (hx : ∀ σ, PassesAt (L2.CX X.prog X.w) X σ (E σ)) (ha : PDN X g E (a :: es) t q n) (hN : X.N.Nodup) (hk : k ≤ j := by decide)
    (hi : X.N[i]? = some y := by rfl) (hy : Loc X.env.scope y := by first | exact .inl rfl | exact .inr rfl) (hf : X.fn y = true ∨ X.env.scope.names.lookup y = some .local := by first | exact .inl rfl | exact .inr rfl | assumption) (hg : Gl X x := by rfl)
    (hdb : (x == ("__debug__" : Str)) = false := by decide) (he : starEach (a :: es) X.env = (false, eval a X.env) :: starEach es X.env := by rfl) (hpl : (backTo cp (starEach es X.env)).any (·.1) = false := by rfl)
    (hs : swapsWithSole [.Name y py] (.Call (.Name x p) (a :: es) [] cp) pos.line X.env = pure false := by rfl) (hw : swappedStores [.Name y py] (.Call (.Name x p) (a :: es) [] cp) X.env = pure none := by rfl) (hK : X.K = K := by rfl) :
    PSD X g E (.Assign [.Name y py] (.Call (.Name x p) (a :: es) [] cp) pos) (tAsg (tCallS (spT (g.at K) n f) E t) (gName i)) (asCallT i f q) := by
  subst hK
  obtain ⟨fa, fd, ps, h3, h4, h5, h6⟩ := c.ex
  exact ⟨ps_asg (pe_callS h3 (hr.mono hk) hg h4 h5 h6 hx ha.pa hdb he hpl) (pg_name hN hi hy hf) hs hw, ss_callT (g := g.at X.K) ha.sd ha.len⟩
end
/-! a block whose last statement hands back a track -/
structure PSR (X : Cx) (g : G) (E : EX) (st : List Stmt) (t : TS) (a : AS) (i : Nat) : Prop where
  ps : PSs X st t
  ss : SSR (g.at X.K) E t a i
theorem psr_ret {x : Str} {p pos : Pos} (i : Nat) (hn : PE X (.Name x p) (tVar i)) : PSR X g E [.Return (some (.Name x p)) pos] (tRet (tVar i)) (asRetP i) i := ⟨pss_one (ps_ret hn), ssr_ret⟩
theorem psr_cons {st : Stmt} {rest : List Stmt} {t u : TS} {a b : AS} {i : Nat} (h : PSD X g E st t a) (k : PSR X g E rest u b i) : PSR X g E (st :: rest) (tSeq t u) (asSeq a b) i := ⟨pss_cons h.ps k.ps, ssr_seq h.ss k.ss⟩
end
/-! evaluation -/
theorem e_here {i : Nat} {ρ : List Sl} : aHere i ρ = (match sl ρ i with | .pin (.trk h _) => .ok h ρ | _ => .bad) := rfl
end DL

/-! Tracks: evaluation. -/
namespace DL
open PySem PySem.Spec PyProof.Rows L2
def hereR (ρ : List Sl) : Sl → Res D
  | .pin (.trk h _) => .ok h ρ
  | _ => .bad
theorem e_aHere {i : Nat} {ρ : List Sl} : aHere i ρ = hereR ρ (sl ρ i) := by
  unfold aHere hereR
  cases sl ρ i with
  | pin m => cases m <;> rfl
  | _ => rfl
theorem hereR_t {ρ : List Sl} {h : D} {p : List D} : hereR ρ (.pin (.trk h p)) = .ok h ρ := rfl
def past0R (ρ : List Sl) : Sl → Res D
  | .pin (.trk _ past) => lift (oEq (.list past) (.list [])) ρ
  | _ => .bad
theorem e_aPast0 {i : Nat} {ρ : List Sl} : aPast0 i ρ = past0R ρ (sl ρ i) := by
  unfold aPast0 past0R
  cases sl ρ i with
  | pin m => cases m <;> rfl
  | _ => rfl
theorem past0R_t {ρ : List Sl} {h : D} {p : List D} : past0R ρ (.pin (.trk h p)) = lift (oEq (.list p) (.list [])) ρ := rfl
def pastTR (ρ : List Sl) : Sl → Res D
  | .pin (.trk _ past) => .ok (.tuple past) ρ
  | _ => .bad
theorem e_aPastT {i : Nat} {ρ : List Sl} : aPastT i ρ = pastTR ρ (sl ρ i) := by
  unfold aPastT pastTR
  cases sl ρ i with
  | pin m => cases m <;> rfl
  | _ => rfl
theorem pastTR_t {ρ : List Sl} {h : D} {p : List D} : pastTR ρ (.pin (.trk h p)) = .ok (.tuple p) ρ := rfl
def pushR (i : Nat) (ρ : List Sl) : Sl → SRes
  | .pin (.trk h past) => if past.length ≤ 10000 then .nx (ρ.set i (.pin (.trk h (past ++ [h])))) else .bad
  | _ => .bad
theorem e_asPush {i : Nat} {ρ : List Sl} : asPush i ρ = pushR i ρ (sl ρ i) := by
  unfold asPush pushR
  cases sl ρ i with
  | pin m => cases m <;> rfl
  | _ => rfl
theorem pushR_le {i : Nat} {ρ : List Sl} {h : D} {p : List D} (hl : p.length ≤ 10000) : pushR i ρ (.pin (.trk h p)) = .nx (ρ.set i (.pin (.trk h (p ++ [h])))) := if_pos hl
theorem e_asHere {i : Nat} {b : AE} {ρ : List Sl} : asHere i b ρ = (b ρ).thn (kHere i) := rfl
theorem hereB_t {i : Nat} {d h : D} {p : List D} {ρ : List Sl} : hereB i d ρ (.pin (.trk h p)) = .nx (ρ.set i (.pin (.trk d p))) := rfl
theorem hereB_r {i : Nat} {d : D} {ρ : List Sl} : hereB i d ρ (.pin .raw) = .nx (ρ.set i (.pin (.half d))) := rfl
theorem e_asPast0 {i : Nat} {ρ : List Sl} : asPast0 i ρ = pastB i [] ρ (sl ρ i) := rfl
theorem pastB_t {i : Nat} {ds : List D} {h : D} {p : List D} {ρ : List Sl} : pastB i ds ρ (.pin (.trk h p)) = .nx (ρ.set i (.pin (.trk h ds))) := rfl
theorem pastB_h {i : Nat} {ds : List D} {h : D} {ρ : List Sl} : pastB i ds ρ (.pin (.half h)) = .nx (ρ.set i (.pin (.trk h ds))) := rfl
theorem e_asPastL {i : Nat} {b : AE} {ρ : List Sl} : asPastL i b ρ = (b ρ).thn (kPastL i) := rfl
theorem kPastL_t {i : Nat} {ds : List D} {ρ : List Sl} : kPastL i (.tuple ds) ρ = pastB i ds ρ (sl ρ i) := rfl
theorem kPastL_l {i : Nat} {ds : List D} {ρ : List Sl} : kPastL i (.list ds) ρ = pastB i ds ρ (sl ρ i) := rfl
def popR (i : Nat) (ρ : List Sl) : Sl → SRes
  | .pin (.trk _ past) => match past.getLast? with
    | some d => .nx (ρ.set i (.pin (.trk d past.dropLast)))
    | none => .bad
  | _ => .bad
theorem e_asPopH {i : Nat} {ρ : List Sl} : asPopH i ρ = popR i ρ (sl ρ i) := by
  unfold asPopH popR
  cases sl ρ i with
  | pin m => cases m <;> rfl
  | _ => rfl
theorem popR_snoc {i : Nat} {ρ : List Sl} {h d : D} {p : List D} : popR i ρ (.pin (.trk h (p ++ [d]))) = .nx (ρ.set i (.pin (.trk d p))) := by
  simp only [popR, List.getLast?_concat, List.dropLast_concat]
theorem e_meth {i : Nat} {f : Fn} {q : AA} {ρ : List Sl} : aMeth i f q ρ = methB (aCall f (aaPin i q)) ρ (sl ρ i) := rfl
theorem methB_t {c : AE} {ρ : List Sl} {h : D} {p : List D} : methB c ρ (.pin (.trk h p)) = c ρ := rfl
theorem e_make {i : Nat} {f : Fn} {q : AD} {ρ : List Sl} : asMake i f q ρ = (q ρ).thn (makeB i f) := rfl
theorem makeB_y {i : Nat} {f : Fn} {ds : List D} {ρ : List Sl} (h : (noPin (sl ρ i) && decide (i < ρ.length)) = true) : makeB i f ds ρ = makeR i ρ (f (.pin .raw :: ds.map .dat)) := by
  rw [Bool.and_eq_true, decide_eq_true_eq] at h
  exact if_pos h
theorem makeR_ok {i : Nat} {ρ ss : List Sl} {m : Mu} : makeR i ρ (.ok .none (.pin m :: ss)) = .nx (ρ.set i (.pin m)) := rfl
theorem makeR_exc {i e : Nat} {ρ ss : List Sl} {x : Sl} : makeR i ρ (.exc e (x :: ss)) = .exc e ρ := rfl
theorem e_tmp {f0 f1 : Fn} {q : AD} {ρ : List Sl} : aTmp f0 f1 q ρ = (q ρ).bind (tmpB f0 f1) := rfl
theorem e_tmpB {f0 f1 : Fn} {ds : List D} {ρ : List Sl} : tmpB f0 f1 ds ρ = tmpR f1 ρ (f0 (.pin .raw :: ds.map .dat)) := rfl
theorem tmpR_ok {f1 : Fn} {ρ ss : List Sl} {h : D} {p : List D} : tmpR f1 ρ (.ok .none (.pin (.trk h p) :: ss)) = tmp2 ρ (f1 [.pin (.trk h p)]) := rfl
theorem tmpR_exc {f1 : Fn} {e : Nat} {ρ ss : List Sl} {x : Sl} : tmpR f1 ρ (.exc e (x :: ss)) = .exc e ρ := rfl
theorem tmp2_ok {ρ ss : List Sl} {d : D} {x : Sl} : tmp2 ρ (.ok d (x :: ss)) = .ok d ρ := rfl
theorem e_callT {i : Nat} {f : Fn} {q : AD} {ρ : List Sl} : asCallT i f q ρ = (q ρ).thn (callTB i f) := rfl
theorem callTB_y {i : Nat} {f : Fn} {ds : List D} {ρ : List Sl} (h : (noPin (sl ρ i) && decide (i < ρ.length)) = true) : callTB i f ds ρ = callTR i ρ (f (ds.map .dat)) := by
  rw [Bool.and_eq_true, decide_eq_true_eq] at h
  exact if_pos h
theorem callTR_ok {i : Nat} {ρ : List Sl} {d : D} {m : Mu} : callTR i ρ (.ok d [.pin m]) = .nx (ρ.set i (.pin m)) := rfl
theorem e_retP {i : Nat} {ρ : List Sl} : asRetP i ρ = if isPin (sl ρ i) = true then .nx ρ else .bad := rfl
theorem e_runT {n m i : Nat} {b : AS} {ss : List Sl} : runT n m i b ss = outT i (b (ss ++ List.replicate (m - n) .none)) := rfl
def outTR : Sl → FRes
  | .pin m => .ok .none [.pin m]
  | _ => .bad
theorem outT_nx {i : Nat} {ρ : List Sl} : outT i (.nx ρ) = outTR (sl ρ i) := by
  show (match sl ρ i with | .pin m => FRes.ok .none [.pin m] | _ => .bad) = outTR (sl ρ i)
  generalize sl ρ i = x
  cases x <;> rfl
theorem outTR_t {m : Mu} : outTR (.pin m) = .ok .none [.pin m] := rfl
theorem outT_exc {i e : Nat} {ρ : List Sl} : outT i (.exc e ρ) = .exc e [] := rfl
end DL

/-! A module's tuple of texts; a text in it; try .. except LineError: return a text. -/
namespace DL
open PySem PySem.Spec PyProof.Rows L2
structure GlobT (K : Fr) (mg : Str → Option Value) (x : Str) (ws : List Str) : Prop where
  ex : ∃ (a : Addr) (o : Obj) (its : Array Value) (n : Nat), mg x = some (.ref a) ∧ K.lookup a = some o ∧ o.cls = .type "tuple" ∧ o.data = .seq its n ∧ its.size ≤ sizeLine ∧ Vals (ws.map V.str) its.toList
def strsD : List D → Option (List Str)
  | [] => some []
  | .str w :: r => (strsD r).map (w :: ·)
  | _ :: _ => none
theorem strsD_eq : ∀ {ds : List D} {ws : List Str}, strsD ds = some ws → ds = ws.map .str
  | [], ws, h => by cases h; rfl
  | d :: r, ws, h => by
    cases d with
    | str w =>
      obtain ⟨vs, h1, rfl⟩ := Option.map_eq_some_iff.mp (show (strsD r).map (w :: ·) = some ws from h)
      rw [strsD_eq h1]; rfl
    | _ => cases h
def oInS : D → D → Option D
  | .str x, .tuple ds => (strsD ds).map fun ws => .bool (ws.any fun w => w == x)
  | _, _ => none
section
variable {X : Cx} {g : G} {E : EX} {K : Fr}
theorem pd_globT {x : Str} {ws : List Str} {pos : Pos} (h : GlobT X.K X.mg x ws) (hg : Gl X x := by rfl) (hd : (x == ("__debug__" : Str)) = false := by decide) : ∃ a, PD X g E (.Name x pos) (tC (.ref a)) (aC (.tuple (ws.map .str))) := by
  obtain ⟨a, o, its, n, h1, h2, h3, h4, h5, h6⟩ := h.ex
  refine ⟨a, pe_glob (v := V.ref a) hg h1 rfl hd, fun s Q ok k => ?_⟩
  exact Aft.here (s := s) ok k _ (.tup (.inr ⟨o, its, n, h2, h3, h4, h5, h6⟩) (RepL.of_strs ws))
theorem rs_inS : RS g (rIn g.K false) oInS := RS.sc fun F H x y d1 d2 d Q e r1 r2 hf k => by
  unfold oInS at hf
  split at hf
  · rename_i z ds
    obtain ⟨ws, h1, rfl⟩ := Option.map_eq_some_iff.mp hf
    have := strsD_eq h1
    subst this
    cases r1
    cases r2 with | tup ha hl =>
    rw [RepL.strs hl] at ha
    refine ⟨_, ws.map V.str, rfl, .inr (e.sqT ha), rfl, by rw [List.all_map]; exact List.all_eq_true.mpr fun _ _ => rfl, ?_⟩
    have hi : inV (.str z) (ws.map V.str) = ws.any fun w => w == z := by
      unfold inV
      rw [List.any_map]; rfl
    show Q (.bl (if false = true then _ else inV (.str z) (ws.map V.str))) H
    rw [if_neg (by decide), hi]
    exact k _ (.bl _)
  · cases hf
/-- the tuple's address is the heap's choice -/
theorem pd_inS {a : Expr} {ta : TE} {α : AE} {x : Str} {ws : List Str} {p pos : Pos} (ha : PD X g E a ta α) (h : GlobT X.K X.mg x ws) (hg : Gl X x := by rfl) (hd : (x == ("__debug__" : Str)) = false := by decide) (hm : behindInMarks .In (.Name x p) = false := by rfl) (hK : X.K = K := by rfl) :
    PD X g E (.Compare a [.In] [.Name x p] pos) (fun σ H Q => ∃ b, GlobT K X.mg x ws ∧ (∃ o its n, X.mg x = some (.ref b) ∧ K.lookup b = some o ∧ o.cls = .type "tuple" ∧ o.data = .seq its n ∧ its.size ≤ sizeLine ∧ Vals (ws.map V.str) its.toList) ∧ tOp (rIn K false) ta (tC (.ref b)) σ H Q) (aBin oInS α (aC (.tuple (ws.map .str)))) := by
  subst hK
  refine ⟨⟨fun pins s σ H Q I hw => ?_⟩, fun s Q ok k => ?_⟩
  · obtain ⟨b, _, ⟨o, its, n, h1, _⟩, q⟩ := hw
    exact (pe_cmpR op_in_seq ha.pe (pe_glob (v := V.ref b) hg h1 rfl hd) hm).run pins s σ H Q I q
  · obtain ⟨b, o, its, n, h1, h2, h3, h4, h5, h6⟩ := h.ex
    refine ⟨b, h, ⟨o, its, n, h1, h2, h3, h4, h5, h6⟩, ?_⟩
    refine se_bin (g := g.at X.K) (b := aC (.tuple (ws.map .str))) rs_inS ha.se (fun s Q ok k => ?_) s Q ok k
    exact Aft.here (s := s) ok k _ (.tup (.inr ⟨o, its, n, h2, h3, h4, h5, h6⟩) (RepL.of_strs ws))
end
/-! ### try .. except LineError: return a text -/
def tryB0 (es : List Nat) (d : D) : SRes → SRes
  | .exc e ρ => if es.contains e = true then .rt d ρ else .bad
  | r => r
def asTry0 (es : List Nat) (d : D) (b : AS) : AS := fun ρ => tryB0 es d (b ρ)
section
variable {X : Cx} {g : G} {L : Addr} {EE : XK}
theorem psd_try0 {es : List Nat} {x : Str} {body : List Stmt} {b : AS} {np cp rp pos pos' : Pos} {j0} (hW : ∀ e ∈ es, PySem.W.exmOne X.K (g.cls e) (.ref L) = some true) (hL : X.mg "LineError" = some (.ref L)) (tk : L2.Takes X (fun cls d _ H => EE cls d H))
    (hb : ∀ (W : WX) (pn : List (Addr × Obj)) (xe : Value → Shared → Prop), L2.Takes (X.tr pn xe) W → PassesOwn (model X.prog X.w) X.A X.env xe → ∃ tq, PSsD (X.tr pn xe) g (L2.WE W) body tq b)
    (hgL : Gl X "LineError" := by rfl) (hs : X.stack = X.env :: X.outer := by rfl) (hf : X.env.frame = some X.env.locals := by rfl) :
    PSD X g (fun _ => EE) (.Try body [.ExceptHandler (some (.Name "LineError" np)) none [.Return (some (.Constant (.str x) j0 cp)) rp] pos'] [] [] pos)
      (fun D σ H => semS (g.at X.K) (L2.WE (wOnly X.K (.ref L) (fun _ _ _ => tRet (tC (.str x))) (fun cls d _ H => EE cls d H) D)) b D σ H) (asTry0 es (.str x) b) := by
  refine ⟨ps_try_only (tb := fun W => semS (g.at X.K) (L2.WE W) b) hs hf ⟨hgL, by decide, .inl hL⟩ tk (fun W pn xe t po => by obtain ⟨tq, q⟩ := hb W pn xe t po; exact sem_pss q) (fun a oe cls d pn hz hfl => pss_one (ps_ret pe_str)), fun s D ok h => ?_⟩
  refine ⟨s.F, s.W, s.ρ, ok, ?_⟩
  have h : AftS (g.at X.K) (fun _ => EE) s (tryB0 es (.str x) (b s.ρ)) (KE.of (g.at X.K) D) := h
  show AftS (g.at X.K) _ s (b s.ρ) (KE.of (g.at X.K) D)
  cases e : b s.ρ with
  | nx ρ => rw [e] at h; exact h
  | rt d ρ => rw [e] at h; exact h
  | bk ρ => rw [e] at h; exact h
  | ct ρ => rw [e] at h; exact h
  | bad => rw [e] at h; exact h
  | exc ee ρ =>
    rw [e] at h
    unfold tryB0 at h
    split at h
    case h_2 q => exact absurd rfl (q _ _)
    rename_i ee' ρ' heq
    cases heq
    split at h
    case isFalse => exact h.elim
    rename_i cc
    intro t et okt got
    refine ⟨true, hW ee (by simpa using cc), fun _ a ha => ?_, fun q => nomatch q⟩
    exact h t et okt got _ (.str x)
end
theorem e_try0 {es : List Nat} {d : D} {b : AS} {ρ : List Sl} : asTry0 es d b ρ = tryB0 es d (b ρ) := rfl
theorem try0_rt {es : List Nat} {d d' : D} {ρ : List Sl} : tryB0 es d (.rt d' ρ) = .rt d' ρ := rfl
theorem try0_exc {es : List Nat} {d : D} {e : Nat} {ρ : List Sl} (h : es.contains e = true) : tryB0 es d (.exc e ρ) = .rt d ρ := if_pos h
end DL

/-! zip of three sources; < of lists of ints -/
namespace DL
open PySem PySem.Spec PyProof.Rows L2
/-- threes of what stands at a, at b and at c, in new tuples -/
def Itz3 (K : Fr) (t u w : Bool) (a b c : Addr) : It :=
  ⟨fun i H => ∃ (xs ys zs : List V) (x y z : V), (SqK K t H a xs ∧ SqK K u H b ys ∧ SqK K w H c zs) ∧ xs[i]? = some x ∧ ys[i]? = some y ∧ zs[i]? = some z,
    fun i H v H' => ∃ T x y z, v = .ref T ∧ H T = none ∧ H' = upd H T (.tup [x, y, z]) ∧ (∀ xs, SqK K t H a xs → xs[i]? = some x) ∧ (∀ ys, SqK K u H b ys → ys[i]? = some y) ∧ ∀ zs, SqK K w H c zs → zs[i]? = some z,
    fun i H => ∃ xs ys zs : List V, SqK K t H a xs ∧ SqK K u H b ys ∧ SqK K w H c zs ∧ i = min (min xs.length ys.length) zs.length⟩
def sepK3 {N a b c : Nat} (ha : a < N) (hb : b < N) (hc : c < N) : ZipSep3 (N + 5) (N + 3) (N + 4) N (N + 1) (N + 2) [N, a] [N + 1, b] [N + 2, c] :=
  zip_sep3 (fun d hd => by rw [List.mem_singleton.mp hd]; exact ha) (fun d hd => by rw [List.mem_singleton.mp hd]; exact hb) (fun d hd => by rw [List.mem_singleton.mp hd]; exact hc)
theorem memZ6 {N c : Nat} (h : c ∈ [N + 5, N + 3, N + 4, N, N + 1, N + 2]) : N ≤ c ∧ c < N + 6 := by
  simp only [List.mem_cons, List.not_mem_nil, or_false] at h
  omega
theorem oldZ6 {N c : Nat} (h : c ∉ [N + 5, N + 3, N + 4, N, N + 1, N + 2]) : c ≠ N + 5 ∧ c ≠ N + 3 ∧ c ≠ N + 4 ∧ c ≠ N ∧ c ≠ N + 1 ∧ c ≠ N + 2 := by
  simp only [List.mem_cons, List.not_mem_nil, or_false, not_or] at h
  exact h
theorem turn3 {P : Program} {w : World} {K : Fr} {elts : List Expr} {kk : Nat} {tpos : Pos} {t u v' : Bool} {a b c : Addr} {N : Nat} (ha : (a : Nat) < N) (hb : (b : Nat) < N) (hcN : (c : Nat) < N) :
    Turn P w K (.Tuple elts kk tpos) (Itz3 K t u v' a b c) [N + 5, N + 3, N + 4, N, N + 1, N + 2] (N + 5) (fun i h => IsZip h (N + 5) (N + 3) (N + 4) .none ∧ IsTupOf3 h (N + 3) (.ref N) (.ref (N + 1)) (.ref (N + 2)) ∧ (∃ x y z, IsTupOf3 h (N + 4) x y z) ∧ ItK t h N a i ∧ ItK u h (N + 1) b i ∧ ItK v' h (N + 2) c i) where
  mem := List.mem_cons_self
  obj := fun i h st c hc => by
    obtain ⟨hz, hTI, ⟨x, y, z, hTO⟩, h1, h2, h3⟩ := st
    simp only [List.mem_cons, List.not_mem_nil, or_false] at hc
    rcases hc with rfl | rfl | rfl | rfl | rfl | rfl
    · exact ⟨_, hz, fun v q => nomatch q⟩
    · exact ⟨_, hTI, fun v q => nomatch q⟩
    · exact ⟨_, hTO, fun v q => nomatch q⟩
    · exact itK_obj h1
    · exact itK_obj h2
    · exact itK_obj h3
  keep := fun i h h' st k => by
    obtain ⟨hz, hTI, ⟨x, y, z, hTO⟩, h1, h2, h3⟩ := st
    exact ⟨k _ (by simp) _ hz, k _ (by simp) _ hTI, ⟨x, y, z, k _ (by simp) _ hTO⟩, itK_at h1 fun o q => k _ (by simp) o q, itK_at h2 fun o q => k _ (by simp) o q, itK_at h3 fun o q => k _ (by simp) o q⟩
  item := by
    intro X hP hw hK hc i pins s σ H E I hf st hg
    subst hP hw hK
    obtain ⟨hz, hTI, ⟨x0, y0, z0, hTO⟩, h1, h2, h3⟩ := st
    obtain ⟨xs, ys, zs, x, y, z, ⟨hqx, hqy, hqz⟩, hx, hy, hzz⟩ := hg
    obtain ⟨its, rv, p, la⟩ := Inv_seqK I hqx
    obtain ⟨its2, rv2, p2, lb⟩ := Inv_seqK I hqy
    obtain ⟨its3, rv3, p3, lc⟩ := Inv_seqK I hqz
    have hh : X.A.in1.handled = none := I.ok.hd hc
    have W := GoesN.zip3 (elts := elts) (x1 := kk) (pos := tpos) (sepK3 ha hb hcN) (drawK (prog := X.prog) (w := X.w) hh t N a (Nat.ne_of_lt ha) its.toArray) (drawK (prog := X.prog) (w := X.w) hh u (N + 1) b (Nat.ne_of_lt (Nat.lt_succ_of_lt hb)) its2.toArray) (drawK (prog := X.prog) (w := X.w) hh v' (N + 2) c (Nat.ne_of_lt (Nat.lt_succ_of_lt (Nat.lt_succ_of_lt hcN))) its3.toArray)
    have l1 : i < its.length := by rw [← rv.length]; exact some_lt hx
    have l2 : i < its2.length := by rw [← rv2.length]; exact some_lt hy
    have l3 : i < its3.length := by rw [← rv3.length]; exact some_lt hzz
    refine wpAny_mono (W.goes i s (fun v s' => ∃ x H', Inv X pins σ H' s' ∧ RelV x v ∧ (Itz3 X.K t u v' a b c).yld i H x H' ∧ (IsZip s'.heap (N + 5) (N + 3) (N + 4) .none ∧ IsTupOf3 s'.heap (N + 3) (.ref N) (.ref (N + 1)) (.ref (N + 2)) ∧ (∃ x y z, IsTupOf3 s'.heap (N + 4) x y z) ∧ ItK t s'.heap N a (i + 1) ∧ ItK u s'.heap (N + 1) b (i + 1) ∧ ItK v' s'.heap (N + 2) c (i + 1)) ∧ ∀ b ∈ [N + 5, N + 3, N + 4, N, N + 1, N + 2], H' b = none) E
      (by rw [List.size_toArray, List.size_toArray, List.size_toArray]; omega) ⟨hz, hTI, ⟨x0, y0, z0, hTO⟩, ⟨h1, p⟩, ⟨h2, p2⟩, ⟨h3, p3⟩⟩ fun v h' tk hY st' hk htk => ?_) (fun _ _ q => q) fun _ _ q => q
    obtain ⟨T, u1, u2, u3, rfl, hT, e1, e2, e3, hTT⟩ := hY
    obtain ⟨hz', hTI', ⟨x1, y1, z1, hTO'⟩, ⟨h1', _⟩, ⟨h2', _⟩, ⟨h3', _⟩⟩ := st'
    obtain ⟨w1, hw1, rw1⟩ := rv.get hx
    obtain ⟨w2, hw2, rw2⟩ := rv2.get hy
    obtain ⟨w3, hw3, rw3⟩ := rv3.get hzz
    have ew1 : w1 = u1 := by
      have q : its[i]? = some u1 := by simpa using e1
      rw [hw1] at q; exact Option.some.inj q
    have ew2 : w2 = u2 := by
      have q : its2[i]? = some u2 := by simpa using e2
      rw [hw2] at q; exact Option.some.inj q
    have ew3 : w3 = u3 := by
      have q : its3[i]? = some u3 := by simpa using e3
      rw [hw3] at q; exact Option.some.inj q
    subst ew1 ew2 ew3
    have hn : H T = none := I.hok.fresh hT
    have new : ObjOk X.prog X.w (upd H T (.tup [x, y, z])) h' T (.tup [x, y, z]) := ⟨by show 3 ≤ sizeLine; decide, [w1, w2, w3], .cons rw1 (.cons rw2 (.cons rw3 .nil)), hTT⟩
    have I1 : Inv X pins σ (upd H T (.tup [x, y, z])) { s with heap := h', toks := tk } :=
      I.turnedNew (t' := tk) (ch := [N + 5, N + 3, N + 4, N, N + 1, N + 2]) (fun c o hb' q => by
        obtain ⟨c1, c2, c3, c4, c5, c6⟩ := oldZ6 (N := N) hb'
        exact hk c o (by simp only [List.mem_cons, List.not_mem_nil, or_false, not_or]; exact ⟨c1, c3, c4, c5, c6⟩) q) hf hT new
    refine ⟨.ref T, _, I1, rfl, ⟨T, x, y, z, rfl, hn, rfl, fun l hl => by rw [Inv_seqK_inj I hl hqx]; exact hx, fun l hl => by rw [Inv_seqK_inj I hl hqy]; exact hy, fun l hl => by rw [Inv_seqK_inj I hl hqz]; exact hzz⟩, ⟨hz', hTI', ⟨x1, y1, z1, hTO'⟩, h1', h2', h3'⟩, fun c hcm => ?_⟩
    have hlt : N + 5 < s.heap.objs.size := Heap.lt_size hz
    have hc5 := memZ6 hcm
    have hT' : s.heap.objs.size ≤ T := hT
    have ne : c ≠ T := fun e => by
      subst e
      have h6 : N + 6 ≤ s.heap.objs.size := hlt
      exact absurd (Nat.lt_of_lt_of_le hc5.2 (Nat.le_trans h6 hT')) (Nat.lt_irrefl _)
    rw [upd_ne ne]
    exact (hf c hcm).1
  done := by
    intro X hP hw hK hc i pins s σ H E I hf st hg
    subst hP hw hK
    obtain ⟨hz, hTI, ⟨x0, y0, z0, hTO⟩, h1, h2, h3⟩ := st
    obtain ⟨xs, ys, zs, hqx, hqy, hqz, hend⟩ := hg
    obtain ⟨its, rv, p, la⟩ := Inv_seqK I hqx
    obtain ⟨its2, rv2, p2, lb⟩ := Inv_seqK I hqy
    obtain ⟨its3, rv3, p3, lc⟩ := Inv_seqK I hqz
    have hh : X.A.in1.handled = none := I.ok.hd hc
    have W := GoesN.zip3 (elts := elts) (x1 := kk) (pos := tpos) (sepK3 ha hb hcN) (drawK (prog := X.prog) (w := X.w) hh t N a (Nat.ne_of_lt ha) its.toArray) (drawK (prog := X.prog) (w := X.w) hh u (N + 1) b (Nat.ne_of_lt (Nat.lt_succ_of_lt hb)) its2.toArray) (drawK (prog := X.prog) (w := X.w) hh v' (N + 2) c (Nat.ne_of_lt (Nat.lt_succ_of_lt (Nat.lt_succ_of_lt hcN))) its3.toArray)
    have ei : i = min (min its.toArray.size its2.toArray.size) its3.toArray.size := by rw [List.size_toArray, List.size_toArray, List.size_toArray, ← rv.length, ← rv2.length, ← rv3.length]; exact hend
    subst ei
    exact W.stops s (fun s' => Inv X pins σ H s') E ⟨hz, hTI, ⟨x0, y0, z0, hTO⟩, ⟨h1, p⟩, ⟨h2, p2⟩, ⟨h3, p3⟩⟩ fun h' tk hk htk =>
      I.turnedL (t' := tk) (ch := [N + 5, N + 3, N + 4, N, N + 1, N + 2]) (fun c o hb' q => by
        obtain ⟨c1, c2, c3, c4, c5, c6⟩ := oldZ6 (N := N) hb'
        exact hk c o (by simp only [List.mem_cons, List.not_mem_nil, or_false, not_or]; exact ⟨c1, c3, c4, c5, c6⟩) q) hf
  self := fun A i s Q E st h => wpAny_pyIter_zip st.1 h
def iZip3 (K : Fr) (ta : TA) : TI := fun σ H R => ta σ H fun vs H1 => ∃ t u v' a b c xs ys zs, vs = [.ref a, .ref b, .ref c] ∧ SqK K t H1 a xs ∧ SqK K u H1 b ys ∧ SqK K v' H1 c zs ∧ R (Itz3 K t u v' a b c) H1
theorem pi_zip3 {X : Cx} {e e2 e3 : Expr} {ta : TA} {p pos tpos : Pos} {elts : List Expr} {kk : Nat} (hg : Gl X "zip") (hm : X.mg "zip" = none) (ha : PA X [e, e2, e3] ta)
    (hs : starEach [e, e2, e3] X.env = (false, eval e X.env) :: starEach [e2, e3] X.env := by rfl) (hpl : (backTo pos (starEach [e2, e3] X.env)).any (·.1) = false := by rfl) :
    PI X (.Tuple elts kk tpos) (.Call (.Name "zip" p) [e, e2, e3] [] pos) (iZip3 X.K ta) := by
  refine ⟨fun pins s σ H R I h => Call_ (ld_blt I hg hm boot_zip (callWith_type1 (thn (ha.run pos pins s σ H _ I h) fun us s1 q1 => ?_) hs hpl))⟩
  obtain ⟨vs, H1, I1, r1, t, u, v', a, b, c, xs, ys, zs, rfl, hqx, hqy, hqz, q⟩ := q1
  cases r1 with | cons ra r1 =>
  cases r1 with | cons rb r1 =>
  cases r1 with | cons rc r1 =>
  cases r1
  cases ra
  cases rb
  cases rc
  obtain ⟨its, rv, p1, la⟩ := Inv_seqK I1 hqx
  obtain ⟨its2, rv2, p2, lb⟩ := Inv_seqK I1 hqy
  obtain ⟨its3, rv3, p3, lc⟩ := Inv_seqK I1 hqz
  refine zip_begins3 (beginK t a its.toArray) (beginK u b its2.toArray) (beginK v' c its3.toArray) p1 p2 p3 fun h' hz hTI hTO e1 e2 e3 hsz hk => wpAny_pyIter_zip hz ?_
  have I2 : Inv X pins σ H1 { s1 with heap := h' } := I1.kept (t' := s1.toks) hk
  refine ⟨s1.heap.objs.size + 5, [s1.heap.objs.size + 5, s1.heap.objs.size + 3, s1.heap.objs.size + 4, s1.heap.objs.size, s1.heap.objs.size + 1, s1.heap.objs.size + 2], _, _, H1, rfl, I2, turn3 la lb lc, ⟨hz, hTI, ⟨_, _, _, hTO⟩, itK_new e1, itK_new e2, itK_new e3⟩, fun c hcm => ?_, q⟩
  exact I1.fpOk (memZ6 hcm).1 (I1.hok.fresh (memZ6 hcm).1)
def zip3D : List D → List D → List D → List D
  | a :: as, b :: bs, c :: cs => .tuple [a, b, c] :: zip3D as bs cs
  | _, _, _ => []
theorem zip3D_len : ∀ (as bs cs : List D), (zip3D as bs cs).length = min (min as.length bs.length) cs.length
  | [], bs, cs => by simp [zip3D]
  | a :: as, [], cs => by simp [zip3D]
  | a :: as, b :: bs, [] => by simp [zip3D]
  | a :: as, b :: bs, c :: cs => by
    show (zip3D as bs cs).length + 1 = min (min (as.length + 1) (bs.length + 1)) (cs.length + 1)
    rw [zip3D_len as bs cs]; omega
theorem zip3D_get : ∀ (as bs cs : List D) (i : Nat) (d : D), (zip3D as bs cs)[i]? = some d → ∃ a b c, as[i]? = some a ∧ bs[i]? = some b ∧ cs[i]? = some c ∧ d = .tuple [a, b, c]
  | [], bs, cs, i, d, h => by simp [zip3D] at h
  | a :: as, [], cs, i, d, h => by simp [zip3D] at h
  | a :: as, b :: bs, [], i, d, h => by simp [zip3D] at h
  | a :: as, b :: bs, c :: cs, 0, d, h => ⟨a, b, c, rfl, rfl, rfl, (Option.some.inj h).symm⟩
  | a :: as, b :: bs, c :: cs, i + 1, d, h => zip3D_get as bs cs i d h
section
variable {g : G} {E : EX}
theorem it_zip3 {K : Fr} {F : Hp} {t u v' : Bool} {a b c : Addr} {vs ws us : List V} {ds es fs : List D} (h1 : SqK K t F a vs) (h2 : SqK K u F b ws) (h3 : SqK K v' F c us) (r1 : RepL K F vs ds) (r2 : RepL K F ws es) (r3 : RepL K F us fs) : ItOk K F (Itz3 K t u v' a b c) (zip3D ds es fs) := fun i F1 H1 e e1 => by
  have m : ∀ {t : Bool} {a : Addr} {xs : List V}, SqK K t F a xs → SqK K t H1 a xs := fun {t a xs} h => by
    cases t with
    | true => exact (e.trans e1).sqT (show SqT K F a xs from h)
    | false => exact (e.trans e1).sqL (show SqL K F a xs from h)
  rw [zip3D_len]
  refine ⟨fun hi => ?_, fun hi => ⟨vs, ws, us, m h1, m h2, m h3, by rw [r1.length, r2.length, r3.length]; omega⟩, fun x H2 hy d hd => .inr (.inl ?_)⟩
  · obtain ⟨v, d, q1, _⟩ := r1.getV_lt (i := i) (by omega)
    obtain ⟨v', d', q2, _⟩ := r2.getV_lt (i := i) (by omega)
    obtain ⟨v'', d'', q3, _⟩ := r3.getV_lt (i := i) (by omega)
    exact ⟨vs, ws, us, v, v', v'', ⟨m h1, m h2, m h3⟩, q1, q2, q3⟩
  · obtain ⟨T, x, y, z, rfl, hT, rfl, hx, hy, hz⟩ := hy
    obtain ⟨d1, d2, d3, e3, e4, e5, rfl⟩ := zip3D_get ds es fs i d hd
    obtain ⟨v1, q1, p1⟩ := r1.get e3
    obtain ⟨v2, q2, p2⟩ := r2.get e4
    obtain ⟨v3, q3, p3⟩ := r3.get e5
    have z1 := hx vs (m h1)
    rw [q1] at z1; cases z1
    have z2 := hy ws (m h2)
    rw [q2] at z2; cases z2
    have z3 := hz us (m h3)
    rw [q3] at z3; cases z3
    have mm : Ex F (upd F1 T (.tup [x, y, z])) := e.trans (Ex.new (e1.free hT))
    exact ⟨T, _, hT, rfl, .tup (sqT_of upd_same) (.cons (p1.mono mm) (.cons (p2.mono mm) (.cons (p3.mono mm) .nil)))⟩
def aZip3 (a : AD) : AI := fun ρ => (a ρ).bind fun ds ρ1 => match ds with
  | [d1, d2, d3] => match seqD d1, seqD d2, seqD d3 with
    | some l1, some l2, some l3 => .ok (zip3D l1 l2 l3) ρ1
    | _, _, _ => .bad
  | _ => .bad
theorem si_zip3 {ta : TA} {a : AD} (ha : SD g E ta a) : SI g E (iZip3 g.K ta) (aZip3 a) := fun s R ok h =>
  ha s _ ok ((Aft.bind h).mono fun ds F1 H1 W1 ρ1 ok1 go1 h1 vs rs => by
    dsimp only at h1
    split at h1
    · split at h1
      · rename_i q1 q2 q3
        cases rs with | cons r1 r2 =>
        cases r2 with | cons r2 r3 =>
        cases r3 with | cons r3 r4 =>
        cases r4
        obtain ⟨t, a, vs, rfl, h2, h3, r1⟩ := seq_rep ok1.ex r1 q1
        obtain ⟨u, b, ws, rfl, h4, h5, r2⟩ := seq_rep ok1.ex r2 q2
        obtain ⟨v', c, us, rfl, h6, h7, r3⟩ := seq_rep ok1.ex r3 q3
        exact ⟨t, u, v', a, b, c, vs, ws, us, rfl, h3, h5, h7, Aft.here (s := ⟨F1, H1, W1, s.σ, ρ1⟩) ok1 h1 _ (it_zip3 h2 h4 h6 r1 r2 r3)⟩
      · exact h1.elim
    · exact h1.elim)
end
section
variable {X : Cx} {g : G} {E : EX} {K : Fr}
theorem pid_zip3 {a b c : Expr} {ta : TA} {q : AD} {p pos tpos : Pos} {elts : List Expr} {kk : Nat} (hm : X.mg "zip" = none) (h : PDD X g E [a, b, c] ta q) (hg : Gl X "zip" := by rfl) (hs : starEach [a, b, c] X.env = (false, eval a X.env) :: starEach [b, c] X.env := by rfl) (hpl : (backTo pos (starEach [b, c] X.env)).any (·.1) = false := by rfl) (hK : X.K = K := by rfl) :
    PID X g E (.Tuple elts kk tpos) (.Call (.Name "zip" p) [a, b, c] [] pos) (iZip3 K ta) (aZip3 q) := by
  subst hK
  exact ⟨pi_zip3 hg hm h.pa hs hpl, si_zip3 (g := g.at X.K) h.sd⟩
end
/-! evaluation -/
variable {ρ : List Sl}
def kZip33 (a b c : Option (List PyData)) (ρ : List Sl) : Res (List PyData) := match a, b, c with | some l1, some l2, some l3 => .ok (zip3D l1 l2 l3) ρ | _, _, _ => .bad
def kZip3 (ds : List PyData) (ρ : List Sl) : Res (List PyData) := match ds with | [d1, d2, d3] => kZip33 (seqD d1) (seqD d2) (seqD d3) ρ | _ => .bad
theorem e_zip3 {q : AD} : aZip3 q ρ = (q ρ).bind kZip3 := rfl
theorem zip3D_map {α β γ : Type} (f : α → PyData) (g : β → PyData) (h : γ → PyData) : ∀ (l : List α) (m : List β) (n : List γ), zip3D (l.map f) (m.map g) (n.map h) = ((l.zip m).zip n).map fun p => .tuple [f p.1.1, g p.1.2, h p.2]
  | [], _, _ => rfl
  | _ :: _, [], _ => rfl
  | _ :: _, _ :: _, [] => rfl
  | _ :: l, _ :: m, _ :: n => by
    show _ :: zip3D (l.map f) (m.map g) (n.map h) = _
    rw [zip3D_map f g h l m n]; rfl
/-! < of data of one shape -/
def rLtD (K : PySem.W.Frag) : R2 := fun x y H Q => ∃ d e, Dp K H x d ∧ Dp K H y e ∧ PySem.W.alike d e = true ∧ d ≠ .none ∧ min d.depth e.depth ≤ 64 ∧ Q (.bl (PySem.W.dataLt d e)) H
theorem op_ltD {X : Cx} (hu : X.A.units + 64 < cLine) : OpR X (compareOp .Lt) (rLtD X.K) := by
  intro pins s σ H x y v u Q I rx ry h
  obtain ⟨d, e, hd, he, ha, hn, hm, q⟩ := h
  obtain ⟨as, r1⟩ := Dp.reads I d x v hd rx
  obtain ⟨bs, r2⟩ := Dp.reads I e y u he ry
  exact PySem.W.lt_data r1 r2 ha hn (by omega) ⟨.bl _, H, I, rfl, q⟩
def oLtD (d e : D) : Option D := if SeqAt.shaped d = true ∧ SeqAt.shaped e = true ∧ PySem.W.alike d e = true ∧ isNon d = false then some (.bool (PySem.W.dataLt d e)) else none
theorem shaped_depth {d : D} (h : SeqAt.shaped d = true) : d.depth ≤ 64 := by
  unfold SeqAt.shaped at h
  rw [Bool.and_eq_true] at h
  exact of_decide_eq_true h.2
theorem rs_ltD {g : G} : RS g (rLtD g.K) oLtD := RS.sc fun F H x y d1 d2 d Q e r1 r2 hf k => by
  unfold oLtD at hf
  split at hf
  · rename_i c
    cases hf
    have := shaped_depth c.1
    exact ⟨d1, d2, (r1.mono e).dp (SeqAt.canLay_of_shaped c.1), (r2.mono e).dp (SeqAt.canLay_of_shaped c.2.1), c.2.2.1, (fun q => by rw [q] at c; exact absurd c.2.2.2 (by decide)), by omega, k _ (.bl _)⟩
  · cases hf
section
variable {X : Cx} {g : G} {E : EX} {K : Fr}
theorem pd_ltD {a b : Expr} {ta tb : TE} {α β : AE} {pos : Pos} (hu : X.A.units + 64 < cLine) (ha : PD X g E a ta α) (hb : PD X g E b tb β) (hK : X.K = K := by rfl) : PD X g E (.Compare a [.Lt] [b] pos) (tOp (rLtD K) ta tb) (aBin oLtD α β) := by
  subst hK
  exact ⟨pe_cmpR (op_ltD hu) ha.pe hb.pe (nomark _), se_bin (g := g.at X.K) rs_ltD ha.se hb.se⟩
end
theorem oLtD_il (a b : List Int) : oLtD (il a) (il b) = some (.bool (PySem.W.listLt a b)) := by
  unfold oLtD
  have h1 : SeqAt.shaped (il a) = true := shaped_dat a
  have h2 : SeqAt.shaped (il b) = true := shaped_dat b
  rw [if_pos ⟨h1, h2, PySem.W.DatumOrd.alike a b, rfl⟩]
  congr 2
  exact PySem.W.DatumOrd.lt_eq a b
end DL

/-! a list that is still built on, lent to a def that takes the script and the town, too -/
namespace DL
open PySem PySem.Spec PyProof.Rows L2
def lendR (ρ : List Sl) (i0 i1 : Nat) : FRes → Res PyData
  | .ok d [.pin (.scr ns), .pin (.town n), _] => if noL d = true then .ok d ((ρ.set i0 (.pin (.scr ns))).set i1 (.pin (.town n))) else .bad
  | _ => .bad
def aLend (f : Fn) (i0 i1 i : Nat) : AE := fun ρ => match sl ρ i0, sl ρ i1, sl ρ i with
  | .pin (.scr ns), .pin (.town n), .own (.list ds) => if i0 ≠ i1 ∧ i0 ≠ i ∧ i1 ≠ i then lendR ρ i0 i1 (f [.pin (.scr ns), .pin (.town n), .dat (.list ds)]) else .bad
  | _, _, _ => .bad
theorem get_of_sl {ρ : List Sl} {i : Nat} {x : Sl} (h : sl ρ i = x) (hx : x ≠ .none) : ρ[i]? = some x := by
  induction ρ generalizing i with
  | nil =>
    exfalso
    cases i <;> exact hx h.symm
  | cons s r ih =>
    cases i with
    | zero =>
      have h : s = x := h
      rw [h]; rfl
    | succ i => exact ih (i := i) h
def lendS (ρ : List Sl) (i0 i1 i : Nat) (ns : List Int) (n : Nat) (ds : List PyData) : List Sl := (((ρ.map fun _ => Sl.none).set i0 (.pin (.scr ns))).set i1 (.pin (.town n))).set i (.dat (.list ds))
section
variable {g : G} {E : EX}
theorem se_lend {f : Fn} {i0 i1 i : Nat} {ta : TA} (ha : SA g E ta (aaPin i0 (aaPin i1 (aaCons (aVar i) aaNil)))) (hn : ∀ s : S, ∀ xs ρ, aaPin i0 (aaPin i1 (aaCons (aVar i) aaNil)) s.ρ = .ok xs ρ → xs.length = 3) : SE g E (tCallS (spG g 3 f) E ta) (aLend f i0 i1 i) := fun s Q ok h => by
  unfold aLend at h
  split at h
  rotate_left
  · exact h.elim
  rename_i ns n ds e0 e1 e2
  split at h
  rotate_left
  · exact h.elim
  rename_i hne
  obtain ⟨n1, n2, n3⟩ := hne
  have g0 := get_of_sl e0 (fun q => nomatch q)
  have g1 := get_of_sl e1 (fun q => nomatch q)
  have g2 := get_of_sl e2 (fun q => nomatch q)
  obtain ⟨O, h1, h2, h3⟩ := ok.sl
  have s0 := h3 i0 _ g0
  have s1 := h3 i1 _ g1
  obtain ⟨a, vs, ea, ha', hH, hr⟩ := h3 i _ g2
  have hFa : s.F a = none := (ok.fw a (h1 i a ha')).1
  have l0 := (List.getElem?_eq_some_iff.mp g0).1
  have l1 := (List.getElem?_eq_some_iff.mp g1).1
  have l2 := (List.getElem?_eq_some_iff.mp g2).1
  have exF : Ex s.F (upd s.F a (.lst vs)) := Ex.new hFa
  have hat : upd s.F a (.lst vs) a = some (.lst vs) := upd_same
  have hlen : (lendS s.ρ i0 i1 i ns n ds).length = s.ρ.length := by unfold lendS; simp
  have q0 : (lendS s.ρ i0 i1 i ns n ds)[i0]? = some (.pin (.scr ns)) := by
    unfold lendS
    rw [List.getElem?_set_ne (Ne.symm n2), List.getElem?_set_ne (Ne.symm n1), List.getElem?_set_self (by rw [List.length_map]; exact l0)]
  have q1 : (lendS s.ρ i0 i1 i ns n ds)[i1]? = some (.pin (.town n)) := by
    unfold lendS
    rw [List.getElem?_set_ne (Ne.symm n3), List.getElem?_set_self (by rw [List.length_set, List.length_map]; exact l1)]
  have q2 : (lendS s.ρ i0 i1 i ns n ds)[i]? = some (.dat (.list ds)) := by
    unfold lendS
    rw [List.getElem?_set_self (by rw [List.length_set, List.length_set, List.length_map]; exact l2)]
  have q3 : ∀ j, j ≠ i0 → j ≠ i1 → j ≠ i → ∀ x, (lendS s.ρ i0 i1 i ns n ds)[j]? = some x → x = .none := fun j j0 j1 j2 x hx => by
    unfold lendS at hx
    rw [List.getElem?_set_ne (Ne.symm j2), List.getElem?_set_ne (Ne.symm j1), List.getElem?_set_ne (Ne.symm j0), List.getElem?_map] at hx
    cases hq : s.ρ[j]? with
    | none => rw [hq] at hx; cases hx
    | some y => rw [hq] at hx; cases hx; rfl
  have ok' : (S.mk (upd s.F a (.lst vs)) s.H (fun x => O i0 x ∨ O i1 x) s.σ (lendS s.ρ i0 i1 i ns n ds)).Ok g := by
    refine ⟨fun x o hx => ?_, fun x hx => ?_, by rw [hlen]; exact ok.len, fun j x => (j = i0 ∨ j = i1) ∧ O j x, fun j x ⟨q, r⟩ => ?_, fun j k x ⟨_, q⟩ ⟨_, r⟩ => h2 j k x q r, fun j x hx => ?_⟩
    · have hx : upd s.F a (.lst vs) x = some o := hx
      by_cases c : x = a
      · subst c
        rw [hat] at hx
        cases hx; exact hH
      · rw [upd_ne c] at hx
        exact ok.ex x o hx
    · have hw : s.W x := hx.elim (h1 i0 x) (h1 i1 x)
      have hxa : x ≠ a := fun e => by
        subst e
        rcases hx with q | q
        · exact n2 (h2 _ _ _ q ha')
        · exact n3 (h2 _ _ _ q ha')
      exact ⟨(upd_ne hxa).trans (ok.fw x hw).1, (ok.fw x hw).2⟩
    · rcases q with rfl | rfl
      · exact .inl r
      · exact .inr r
    · have hx : (lendS s.ρ i0 i1 i ns n ds)[j]? = some x := hx
      by_cases j0 : j = i0
      · subst j0
        rw [q0] at hx
        cases hx
        exact SlOk.keep exF (fun _ _ _ => rfl) (fun x hx => ⟨.inl rfl, hx⟩) s0
      · by_cases j1 : j = i1
        · subst j1
          rw [q1] at hx
          cases hx
          exact SlOk.keep exF (fun _ _ _ => rfl) (fun x hx => ⟨.inr rfl, hx⟩) s1
        · by_cases j2 : j = i
          · subst j2
            rw [q2] at hx
            cases hx
            exact ⟨.ref a, ea, .lst hat (hr.mono exF)⟩
          · rw [q3 j j0 j1 j2 x hx]
            trivial
  refine se_call (f := f) (n := 3) ha hn ⟨upd s.F a (.lst vs), s.H, fun x => O i0 x ∨ O i1 x, s.σ, lendS s.ρ i0 i1 i ns n ds⟩ Q ok' ?_
  have p0 : sl (lendS s.ρ i0 i1 i ns n ds) i0 = .pin (.scr ns) := sl_of q0
  have p1 : sl (lendS s.ρ i0 i1 i ns n ds) i1 = .pin (.town n) := sl_of q1
  have p2 : sl (lendS s.ρ i0 i1 i ns n ds) i = .dat (.list ds) := sl_of q2
  have hev : aCall f (aaPin i0 (aaPin i1 (aaCons (aVar i) aaNil))) (lendS s.ρ i0 i1 i ns n ds) = callRes f [.inr i0, .inr i1, .inl (.list ds)] (lendS s.ρ i0 i1 i ns n ds) := by
    have h5 : aaPin i0 (aaPin i1 (aaCons (aVar i) aaNil)) (lendS s.ρ i0 i1 i ns n ds) = .ok [.inr i0, .inr i1, .inl (.list ds)] (lendS s.ρ i0 i1 i ns n ds) := by
      unfold aaPin aaCons aVar aaNil
      simp only [p0, p1, p2, isPin, if_true, Res.bind]
    unfold aCall
    rw [h5]; rfl
  have hpo : pinsOk [] [Sum.inr i0, Sum.inr i1, Sum.inl (PyData.list ds)] = true := by
    simp [pinsOk, Ne.symm n1]
  show Aft g E _ (aCall f (aaPin i0 (aaPin i1 (aaCons (aVar i) aaNil))) (lendS s.ρ i0 i1 i ns n ds)) _
  rw [hev]
  unfold callRes
  rw [if_pos hpo]
  have hargs : [Sum.inr i0, Sum.inr i1, Sum.inl (PyData.list ds)].map (argS (lendS s.ρ i0 i1 i ns n ds)) = [.pin (.scr ns), .pin (.town n), .dat (.list ds)] := by
    simp only [List.map_cons, List.map_nil, argS, p0, p1]
  rw [hargs]
  revert h
  generalize f [.pin (.scr ns), .pin (.town n), .dat (.list ds)] = r
  intro h
  unfold lendR at h
  split at h
  rotate_left
  · exact h.elim
  rename_i d ns' n' x3
  split at h
  rotate_left
  · exact h.elim
  rename_i hnl
  have hpp : putPins [Sum.inr i0, Sum.inr i1, Sum.inl (PyData.list ds)] [.pin (.scr ns'), .pin (.town n'), x3] (lendS s.ρ i0 i1 i ns n ds) = ((lendS s.ρ i0 i1 i ns n ds).set i0 (.pin (.scr ns'))).set i1 (.pin (.town n')) := rfl
  show Aft g E _ (.ok d (putPins [Sum.inr i0, Sum.inr i1, Sum.inl (PyData.list ds)] [.pin (.scr ns'), .pin (.town n'), x3] (lendS s.ρ i0 i1 i ns n ds))) _
  rw [hpp]
  intro F H W okt got v rv
  obtain ⟨O2, k1, k2, k3⟩ := okt.sl
  have hF2a : F a = some (.lst vs) := got.f a _ hat
  obtain ⟨F3, hF3⟩ : ∃ F3 : Hp, F3 = fun x => if x = a then none else F x := ⟨_, rfl⟩
  have f3n : ∀ {x : Addr}, x ≠ a → F3 x = F x := fun {x} hx => by rw [hF3]; exact if_neg hx
  have f3a : F3 a = none := by rw [hF3]; exact if_pos rfl
  have ex3 : Ex s.F F3 := fun x o hx => by
    have hxa : x ≠ a := fun e => by
      subst e
      rw [hFa] at hx; cases hx
    rw [f3n hxa]
    exact got.f x o ((upd_ne hxa).trans hx)
  have nw : ∀ {x : Addr} {j : Nat}, O j x → j ≠ i0 → j ≠ i1 → ¬ (O i0 x ∨ O i1 x) := fun {x j} hj a0 a1 q => by
    rcases q with q | q
    · exact a0 (h2 _ _ _ hj q)
    · exact a1 (h2 _ _ _ hj q)
  have keepH : ∀ {x : Addr} {j : Nat}, O j x → j ≠ i0 → j ≠ i1 → s.H x ≠ none → H x = s.H x := fun {x j} hj a0 a1 hx => by
    cases e : s.H x with
    | none => exact absurd e hx
    | some o => exact got.keep x o e (nw hj a0 a1)
  have hda : H a = some (.lst vs) := by
    rw [keepH ha' (Ne.symm n2) (Ne.symm n3) (by rw [hH]; exact fun q => nomatch q)]; exact hH
  refine h F3 H (fun x => W x ∨ ∃ j, j ≠ i0 ∧ j ≠ i1 ∧ O j x) ⟨fun x o hx => ?_, fun x hx => ?_, ?_, fun j x => ((j = i0 ∨ j = i1) ∧ O2 j x) ∨ ((j ≠ i0 ∧ j ≠ i1) ∧ O j x), fun j x hx => ?_, fun j k x hj hk => ?_, fun j x hx => ?_⟩ ⟨ex3, fun x o hx hw => ?_, fun x hx hf hw => ?_, fun x hx => ?_, fun j m hj => ?_⟩ v (Rep.less (fun x xs hx => ?_) rv hnl)
  · have hx : F3 x = some o := hx
    have hxa : x ≠ a := fun e => by
      subst e
      rw [f3a] at hx; cases hx
    rw [f3n hxa] at hx
    exact okt.ex x o hx
  · rcases hx with hx | ⟨j, j0, j1, hj⟩
    · obtain ⟨z1, z2⟩ := okt.fw x hx
      refine ⟨?_, z2⟩
      show F3 x = none
      by_cases c : x = a
      · rw [c]; exact f3a
      · rw [f3n c]; exact z1
    · obtain ⟨z1, z2⟩ := ok.fw x (h1 j x hj)
      have z3 : H x ≠ none := by rw [keepH hj j0 j1 z2]; exact z2
      refine ⟨?_, z3⟩
      show F3 x = none
      by_cases c : x = a
      · rw [c]; exact f3a
      · rw [f3n c]
        exact got.fr x z2 ((upd_ne c).trans z1) (nw hj j0 j1)
  · show s.σ.length = ((s.ρ.set i0 _).set i1 _).length
    rw [List.length_set, List.length_set]
    exact ok.len
  · rcases hx with ⟨_, hx⟩ | ⟨⟨j0, j1⟩, hx⟩
    · exact .inl (k1 j x hx)
    · exact .inr ⟨j, j0, j1, hx⟩
  · have mix : ∀ {j k : Nat}, (j = i0 ∨ j = i1) → O2 j x → k ≠ i0 → k ≠ i1 → O k x → False := fun {j k} _ hj c0 c1 hk => by
      rcases got.own x (k1 j x hj) with z | z
      · exact nw hk c0 c1 z
      · exact (ok.fw x (h1 k x hk)).2 z
    rcases hj with ⟨a1, a2⟩ | ⟨⟨a1, a2⟩, a3⟩
    · rcases hk with ⟨b1, b2⟩ | ⟨⟨b1, b2⟩, b3⟩
      · exact k2 j k x a2 b2
      · exact (mix a1 a2 b1 b2 b3).elim
    · rcases hk with ⟨b1, b2⟩ | ⟨⟨b1, b2⟩, b3⟩
      · exact (mix b1 b2 a1 a2 a3).elim
      · exact h2 j k x a3 b3
  · have hx : ((s.ρ.set i0 (.pin (.scr ns'))).set i1 (.pin (.town n')))[j]? = some x := hx
    show SlOk g F3 H _ (s.σ[j]?.join) x
    by_cases j1 : j = i1
    · subst j1
      rw [List.getElem?_set_self (by rw [List.length_set]; exact l1)] at hx
      cases hx
      have h6 : SlOk g F H (O2 j) (s.σ[j]?.join) (.pin (.town n')) := k3 j _ (by
        show (((lendS s.ρ i0 j i ns n ds).set i0 _).set j _)[j]? = _
        rw [List.getElem?_set_self (by rw [List.length_set, hlen]; exact l1)])
      obtain ⟨p, z1, z2, z3⟩ := h6
      exact ⟨p, z1, .inl ⟨.inr rfl, z2⟩, z3⟩
    · rw [List.getElem?_set_ne (Ne.symm j1)] at hx
      by_cases j0 : j = i0
      · subst j0
        rw [List.getElem?_set_self l0] at hx
        cases hx
        have h6 : SlOk g F H (O2 j) (s.σ[j]?.join) (.pin (.scr ns')) := k3 j _ (by
          show (((lendS s.ρ j i1 i ns n ds).set j _).set i1 _)[j]? = _
          rw [List.getElem?_set_ne (Ne.symm j1), List.getElem?_set_self (by rw [hlen]; exact l0)])
        obtain ⟨p, z1, z2⟩ := h6
        refine ⟨p, z1, ?_⟩
        rcases z2 with ⟨o, z2⟩ | z2
        · refine .inl ⟨o, ?_⟩
          rw [f3n (fun e => by subst e; rw [hF2a] at z2; cases z2)]
          exact z2
        · exact .inr z2
      · rw [List.getElem?_set_ne (Ne.symm j0)] at hx
        exact SlOk.keep ex3 (fun y hy hny => keepH hy j0 j1 hny) (fun y hy => .inr ⟨⟨j0, j1⟩, hy⟩) (h3 j x hx)
  · refine got.keep x o hx fun q => hw ?_
    exact q.elim (h1 i0 x) (h1 i1 x)
  · have hxa : x ≠ a := fun e => hw (by rw [e]; exact h1 i a ha')
    show F3 x = none
    rw [f3n hxa]
    exact got.fr x hx ((upd_ne hxa).trans hf) fun q => hw (q.elim (h1 i0 x) (h1 i1 x))
  · rcases hx with hx | ⟨j, _, _, hj⟩
    · rcases got.own x hx with z | z
      · exact .inl (z.elim (h1 i0 x) (h1 i1 x))
      · exact .inr z
    · exact .inl (h1 j x hj)
  · refine ⟨rfl, ?_⟩
    show ∃ m', ((s.ρ.set i0 (.pin (.scr ns'))).set i1 (.pin (.town n')))[j]? = some (.pin m')
    by_cases j1 : j = i1
    · subst j1
      exact ⟨_, List.getElem?_set_self (by rw [List.length_set]; exact l1)⟩
    · rw [List.getElem?_set_ne (Ne.symm j1)]
      by_cases j0 : j = i0
      · subst j0
        exact ⟨_, List.getElem?_set_self l0⟩
      · rw [List.getElem?_set_ne (Ne.symm j0)]
        exact ⟨m, hj⟩
  · have rd : ∀ {u : List V}, Rd F x (.tup u) → Rd F3 x (.tup u) := fun {u} z => by
      have hxa : x ≠ a := fun e => by
        subst e
        rcases z with z | ⟨o, z⟩
        · rw [hF2a] at z; cases z
        · rw [hF2a] at z; cases z
      rcases z with z | ⟨o, z⟩
      · exact .inl ((f3n hxa).trans z)
      · exact .inr ⟨o, (f3n hxa).trans z⟩
    rcases hx with z | z
    · exact .inl (rd z)
    · exact .inr z
end
section
variable {X : Cx} {g : G} {E : EX} {K : Fr}
theorem pd_lend {k j i0 i1 i : Nat} {x : Str} {f : Fn} {a : Expr} {es : List Expr} {t : TA} {p pos : Pos} (c : Cl X.prog X.w X.K X.mg X.base (g.at X.K) k 3 x f) (hr : Room j X.A) (hx : ∀ σ, PassesAt (L2.CX X.prog X.w) X σ (E σ)) (ha : PAD X g E (a :: es) t (aaPin i0 (aaPin i1 (aaCons (aVar i) aaNil))) 3) (hk : k ≤ j := by decide) (hg : Gl X x := by rfl)
    (hdb : (x == ("__debug__" : Str)) = false := by decide) (he : starEach (a :: es) X.env = (false, eval a X.env) :: starEach es X.env := by rfl) (hpl : (backTo pos (starEach es X.env)).any (·.1) = false := by rfl) (hK : X.K = K := by rfl) :
    PD X g E (.Call (.Name x p) (a :: es) [] pos) (tCallS (spG (g.at K) 3 f) E t) (aLend f i0 i1 i) := by
  subst hK
  obtain ⟨fa, fd, ps, h1, h2, h3, h4⟩ := c.ex
  exact ⟨pe_callS h1 (hr.mono hk) hg h2 h3 h4 hx ha.pa hdb he hpl, se_lend ha.sa fun s xs ρ => ha.len _ _ _⟩
end
/-! evaluation -/
def kLend (f : Fn) (i0 i1 i : Nat) (ρ : List Sl) : Sl → Sl → Sl → Res PyData
  | .pin (.scr ns), .pin (.town n), .own (.list ds) => match decide (i0 ≠ i1 ∧ i0 ≠ i ∧ i1 ≠ i) with
    | true => lendR ρ i0 i1 (f [.pin (.scr ns), .pin (.town n), .dat (.list ds)])
    | false => .bad
  | _, _, _ => .bad
theorem e_lend {f : Fn} {i0 i1 i : Nat} {ρ : List Sl} {ns : List Int} {n : Nat} {ds : List PyData} (h0 : sl ρ i0 = .pin (.scr ns)) (h1 : sl ρ i1 = .pin (.town n)) (h2 : sl ρ i = .own (.list ds)) (hne : i0 ≠ i1 ∧ i0 ≠ i ∧ i1 ≠ i) : aLend f i0 i1 i ρ = lendR ρ i0 i1 (f [.pin (.scr ns), .pin (.town n), .dat (.list ds)]) := by
  unfold aLend
  rw [h0, h1, h2]
  exact if_pos hne
theorem lendR_ok {ρ : List Sl} {i0 i1 : Nat} {d : PyData} {ns : List Int} {n : Nat} {x : Sl} (h : noL d = true) : lendR ρ i0 i1 (.ok d [.pin (.scr ns), .pin (.town n), x]) = .ok d ((ρ.set i0 (.pin (.scr ns))).set i1 (.pin (.town n))) := if_pos h
end DL

/-! list(x) of a list x that is still built on -/
namespace DL
open PySem PySem.Spec PyProof.Rows L2
def copyB (ρ : List Sl) : Sl → Res PyData
  | .own (.list ds) => .ok (.list ds) ρ
  | _ => .bad
def aCopyO (i : Nat) : AE := fun ρ => copyB ρ (sl ρ i)
section
variable {g : G} {E : EX}
theorem se_copyO {i : Nat} : SE g E (tCB (fun xs H Q => ∃ p ys, xs = [.ref p] ∧ (SqL g.K H p ys ∨ SqT g.K H p ys) ∧ ∀ l, H l = none → Q (.ref l) (upd H l (.lst ys))) (tCons (tVar i) tNil)) (aCopyO i) := fun s Q ok h => by
  unfold aCopyO copyB at h
  split at h
  · rename_i x ds e0
    obtain ⟨v, hv, hw⟩ := own_at ok e0
    rcases hw with ⟨p, vs, ds', q, rfl, hp, hr⟩ | ⟨p, kvs, es, q, _⟩
    · cases q
      refine ⟨_, hv, _, _, rfl, .inl (sqL_of hp), new_lst ok hr fun v F1 H1 ok1 go1 r1 => ?_⟩
      exact (h F1 H1 s.W ok1 go1) v r1
    · cases q
  · exact h.elim
end
section
variable {X : Cx} {g : G} {E : EX} {K : Fr}
theorem pd_copyO {i : Nat} {x : Str} {p q pos : Pos} (hm : X.mg "list" = none) (hn : PE X (.Name x q) (tVar i)) (hg : Gl X "list" := by rfl)
    (he : starEach [.Name x q] X.env = (false, eval (.Name x q) X.env) :: starEach [] X.env := by rfl) (hpl : (backTo pos (starEach [] X.env)).any (·.1) = false := by rfl) (hK : X.K = K := by rfl) :
    PD X g E (.Call (.Name "list" p) [.Name x q] [] pos) (tCB (fun xs H Q => ∃ p ys, xs = [.ref p] ∧ (SqL K H p ys ∨ SqT K H p ys) ∧ ∀ l, H l = none → Q (.ref l) (upd H l (.lst ys))) (tCons (tVar i) tNil)) (aCopyO i) := by
  subst hK
  exact ⟨pe_callTy call_list_of hg hm bb_list (pa_cons hn pa_nil he) (by decide) (by decide) he hpl, se_copyO (g := g.at X.K)⟩
end
theorem e_copyO {i : Nat} {ρ : List Sl} : aCopyO i ρ = copyB ρ (sl ρ i) := rfl
theorem copyB_l {ds : List PyData} {ρ : List Sl} : copyB ρ (.own (.list ds)) = .ok (.list ds) ρ := rfl
end DL

/-! a list that is handed on to be changed (pinned); a dict written out, its keys texts -/
namespace DL
open PySem PySem.Spec PyProof.Rows L2
/-- x = [..] -/
def asPinL (i : Nat) (a : AD) : AS := fun ρ => (a ρ).thn fun ds ρ1 => if ds.length ≤ 1000 then (match putS ρ1 i (.pin (.lst ds)) with | some ρ2 => .nx ρ2 | none => .bad) else .bad
def aLenL (i : Nat) : AE := fun ρ => match sl ρ i with
  | .pin (.lst ds) => .ok (.int ds.length) ρ
  | _ => .bad
def aPBin (f : D → D → Option D) (i : Nat) (b : AE) : AE := fun ρ => match sl ρ i with
  | .pin (.lst _) => (b ρ).bind fun d2 ρ2 => match sl ρ2 i with
    | .pin (.lst ds) => lift (f (.list ds) d2) ρ2
    | _ => .bad
  | _ => .bad
def asAppL (i : Nat) (a : AE) : AS := fun ρ => match sl ρ i with
  | .pin (.lst _) => (a ρ).thn fun d ρ1 => match sl ρ1 i with
    | .pin (.lst ds) => if ds.length ≤ 10000 then .nx (ρ1.set i (.pin (.lst (ds ++ [d])))) else .bad
    | _ => .bad
  | _ => .bad
def asPopL (i : Nat) : AS := fun ρ => match sl ρ i with
  | .pin (.lst ds) => if ds = [] then .bad else .nx (ρ.set i (.pin (.lst ds.dropLast)))
  | _ => .bad
section
variable {g : G} {E : EX}
theorem lst_at {s : S} {i : Nat} {ds : List PyData} (ok : s.Ok g) (h : sl s.ρ i = .pin (.lst ds)) : ∃ p vs, s.σ[i]? = some (some (.ref p)) ∧ s.H p = some (.lst vs) ∧ RepL g.K s.F vs ds := by
  obtain ⟨v, hv, P, p, vs, h1, _, h2, h3⟩ := pin_at ok h
  cases h1
  exact ⟨p, vs, hv, h2, h3⟩
theorem ss_pinL {i : Nat} {ta : TA} {a : AD} (ha : SD g E ta a) : SS g E (tAsg (tLst ta) (gName i)) (asPinL i a) := fun s D ok h =>
  ha s _ ok ((AftS.thn h).mono fun ds F H W ρ ok1 go1 k vs rs => by
    dsimp only at k
    split at k
    · rename_i c
      split at k
      · rename_i e
        obtain ⟨h1, h2, rfl⟩ := putS_some e
        refine ⟨by rw [rs.length]; exact sz_of c, fun p hp => ?_⟩
        obtain ⟨ok2, go2⟩ := S.Ok.newOwn (s := ⟨F, H, W, s.σ, ρ⟩) (p := p) (o := .lst vs) (x' := .pin (.lst ds)) ok1 hp h1 h2 ⟨p, vs, rfl, rfl, upd_same, rs⟩
        exact k _ rfl ok2 go2
      · exact k.elim
    · exact k.elim)
theorem se_lenL {i : Nat} : SE g E (tCB (fun xs H Q => ∃ x n, xs = [x] ∧ LenV g.K x H n ∧ Q (.int n) H) (tCons (tVar i) tNil)) (aLenL i) := fun s Q ok h => by
  unfold aLenL at h
  split at h
  · rename_i ds e0
    obtain ⟨p, vs, hv, hp, hr⟩ := lst_at ok e0
    exact ⟨_, hv, _, _, rfl, .inl ⟨_, sqL_of hp, rfl⟩, by rw [hr.length]; exact Aft.here (s := s) ok h _ (.int _)⟩
  · exact h.elim
theorem se_pbin {r : R2} {f : D → D → Option D} {i : Nat} {tb : TE} {b : AE} (hr : OS g r f) (hb : SE g E tb b) : SE g E (tOp r (tVar i) tb) (aPBin f i b) := fun s Q ok h => by
  unfold aPBin at h
  split at h
  · rename_i d0 e0
    obtain ⟨p, vs, hv, hp, hr0⟩ := lst_at ok e0
    refine ⟨_, hv, ?_⟩
    refine hb s _ ok ((Aft.bind h).mono fun d2 F2 H2 W2 ρ2 ok2 go2 h2 v2 r2 => ?_)
    dsimp only at h2
    split at h2
    · rename_i d1 e1
      obtain ⟨p', vs', hv', hp', hr'⟩ := lst_at (s := ⟨F2, H2, W2, s.σ, ρ2⟩) ok2 e1
      have ev : p = p' := by
        have : (some (some (V.ref p))) = some (some (V.ref p')) := hv.symm.trans hv'
        simpa using this
      subst ev
      obtain ⟨d, hf, k⟩ := h2.lift
      exact hr ⟨F2, H2, W2, s.σ, ρ2⟩ p vs' _ v2 d2 d Q ok2 hp' hr' r2 hf fun v F H ok3 go3 r3 => k F H _ ok3 go3 v r3
    · exact h2.elim
  · exact h.elim
theorem ss_appL {i : Nat} {te : TE} {a : AE} (ha : SE g E te a) : SS g E (tDrop (tBM g.K "list" rAppend (tVar i) (tCons te tNil))) (asAppL i a) := fun s D ok h => by
  unfold asAppL at h
  split at h
  · rename_i ds0 e0
    obtain ⟨p, vs, hv, hp, hr⟩ := lst_at ok e0
    refine ⟨.ref p, hv, .inl ⟨rfl, vs, sqL_of hp⟩, ha s _ ok ((AftS.thn h).mono fun d F H W ρ ok1 go1 k v1 r1 => ?_)⟩
    dsimp only at k
    split at k
    · rename_i ds1 e1
      split at k
      · rename_i c
        obtain ⟨p2, vs2, hv', hp2, hr2⟩ := lst_at (s := ⟨F, H, W, s.σ, ρ⟩) ok1 e1
        have ev : p = p2 := by
          have : (some (some (V.ref p))) = some (some (V.ref p2)) := hv.symm.trans hv'
          simpa using this
        subst ev
        refine ⟨p, vs2, v1, rfl, rfl, hp2, by rw [hr2.length]; exact Nat.lt_of_le_of_lt c (by decide), ?_⟩
        obtain ⟨ok2, go2⟩ := S.Ok.chg (s := ⟨F, H, W, s.σ, ρ⟩) (i := i) (p := p) (o := .lst (vs2 ++ [v1])) (x' := .pin (.lst (ds1 ++ [d]))) ok1 (putS_lt e1 fun q => nomatch q) (fun P hP => by
          have hP : SlOk g F H P (s.σ[i]?.join) (sl ρ i) := hP
          rw [e1] at hP
          obtain ⟨p3, vs3, q1, q2, q3, q4⟩ := hP
          rw [hv] at q1
          cases q1
          refine ⟨q2, p, vs2 ++ [v1], by show s.σ[i]?.join = _; rw [hv]; rfl, q2, upd_same, hr2.append (.cons r1 .nil)⟩) (fun m q => ⟨_, rfl⟩)
        exact k _ rfl ok2 go2
      · exact k.elim
    · exact k.elim
  · exact h.elim
theorem RepL.cutLast {K : Fr} {F : Hp} : ∀ {vs : List V} {ds : List D}, RepL K F vs ds → RepL K F vs.dropLast ds.dropLast := by
  intro vs ds r
  induction ds generalizing vs with
  | nil => cases r; exact .nil
  | cons d ds ih =>
    cases r with | cons h r =>
    cases ds with
    | nil => cases r; exact .nil
    | cons d2 ds =>
      cases r with | cons h2 r =>
      exact .cons h (ih (.cons h2 r))
theorem ss_popL {i : Nat} : SS g E (tDrop (tBM0 g.K "list" rPop (tVar i))) (asPopL i) := fun s D ok h => by
  unfold asPopL at h
  split at h
  · rename_i ds e0
    split at h
    · exact h.elim
    · rename_i hne
      obtain ⟨p, vs, hv, hp, hr⟩ := lst_at ok e0
      have hlen := hr.length
      have hd2 : ∃ d, ds[ds.length - 1]? = some d := ⟨ds[ds.length - 1]'(by have := List.length_pos_iff.mpr hne; omega), List.getElem?_eq_getElem _⟩
      obtain ⟨d, hd2⟩ := hd2
      obtain ⟨y, hy, ry⟩ := hr.get hd2
      refine ⟨.ref p, hv, .inl ⟨rfl, _, sqL_of hp⟩, p, vs, y, rfl, rfl, hp, by rw [hlen]; exact hy, ?_⟩
      obtain ⟨ok2, go2⟩ := S.Ok.chg (s := s) (i := i) (p := p) (o := .lst vs.dropLast) (x' := .pin (.lst ds.dropLast)) ok (putS_lt e0 fun q => nomatch q) (fun P hP => by
        rw [e0] at hP
        obtain ⟨p3, vs3, q1, q2, q3, q4⟩ := hP
        rw [hv] at q1
        cases q1
        refine ⟨q2, p, vs.dropLast, by rw [hv]; rfl, q2, upd_same, hr.cutLast⟩) (fun m q => ⟨_, rfl⟩)
      exact h _ rfl ok2 go2
  · exact h.elim
end
section
variable {X : Cx} {g : G} {E : EX} {K : Fr}
theorem psd_pinL {i : Nat} {x : Str} {px : Pos} {es : List Expr} {lp pos : Pos} {ta : TA} {q : AD} (h : PDD X g E es ta q) (hN : X.N.Nodup) (hi : X.N[i]? = some x := by rfl) (hx : Loc X.env.scope x := by first | exact .inl rfl | exact .inr rfl) (hf : X.fn x = true ∨ X.env.scope.names.lookup x = some .local := by first | exact .inl rfl | exact .inr rfl | assumption)
    (hs : swapsWithSole [.Name x px] (.List es lp) pos.line X.env = pure false := by rfl) (hw : swappedStores [.Name x px] (.List es lp) X.env = pure none := by rfl) : PSD X g E (.Assign [.Name x px] (.List es lp) pos) (tAsg (tLst ta) (gName i)) (asPinL i q) := ⟨ps_asg (pe_lst h.pa) (pg_name hN hi hx hf) hs hw, ss_pinL h.sd⟩
theorem pd_lenL {i : Nat} {x : Str} {p q pos : Pos} (hm : X.mg "len" = none) (hn : PE X (.Name x p) (tVar i)) (hg : Gl X "len" := by rfl) (hs : starEach [.Name x p] X.env = (false, eval (.Name x p) X.env) :: starEach [] X.env := by rfl) (hpl : (backTo pos (starEach [] X.env)).any (·.1) = false := by rfl) (hK : X.K = K := by rfl) :
    PD X g E (.Call (.Name "len" q) [.Name x p] [] pos) (tCB (fun xs H Q => ∃ x n, xs = [x] ∧ LenV K x H n ∧ Q (.int n) H) (tCons (tVar i) tNil)) (aLenL i) := by
  subst hK
  exact ⟨pe_len1 (i := i) hm hn hg hs hpl, se_lenL (g := g.at X.K)⟩
theorem pd_pix {i : Nat} {x : Str} {p pos : Pos} {b : Expr} {tb : TE} {β : AE} (hb : PD X g E b tb β) (hn : PE X (.Name x p) (tVar i)) (hs : PlainIx b := by exact fun _ _ => rfl) (hK : X.K = K := by rfl) : PD X g E (.Subscript (.Name x p) b pos) (tOp (rIx K) (tVar i) tb) (aPBin oIdx i β) := by
  subst hK
  exact ⟨pe_ix ix_seq hn hb.pe hs, se_pbin (g := g.at X.K) os_idx hb.se⟩
theorem psd_appL {i : Nat} {x : Str} {p apos cpos pos : Pos} {e : Expr} {te : TE} {α : AE} (he : PD X g E e te α) (hn : PE X (.Name x p) (tVar i)) (hbase : attributeBase (.Name x p) "append" X.env (eval (.Name x p) X.env) = eval (.Name x p) X.env := by rfl)
    (hfew : ((backTo cpos (starEach [e] X.env)).all (fun x => !x.1) && (backToKw cpos (keywordEach [] X.env)).all (fun x => x.1.isSome) && decide (([e] : List Expr).length + ([] : List Keyword).length + (if ([] : List Keyword).isEmpty then 0 else 1) < 30)) = true := by rfl)
    (hline : (apos.endLine == cpos.line) = true := by rfl) (hst : starEach [e] X.env = (false, eval (e) X.env) :: starEach [] X.env := by rfl) (hpl : (backTo cpos (starEach [] X.env)).any (·.1) = false := by rfl) (hs : swapsWith (.Call (.Attribute (.Name x p) "append" apos) [e] [] cpos) none pos.line X.env = pure false := by rfl) (hK : X.K = K := by rfl) :
    PSD X g E (.Expr (.Call (.Attribute (.Name x p) "append" apos) [e] [] cpos) pos) (tDrop (tBM K "list" rAppend (tVar i) (tCons te tNil))) (asAppL i α) := by
  subst hK
  exact ⟨ps_expr (pe_app he.pe hn hbase hfew hline hst hpl) hs, ss_appL (g := g.at X.K) he.se⟩
theorem psd_popL {i : Nat} {x : Str} {p p4 cp pos : Pos} (hn : PE X (.Name x p) (tVar i)) (hbase : attributeBase (.Name x p) "pop" X.env (eval (.Name x p) X.env) = eval (.Name x p) X.env := by rfl) (hline : (p4.endLine == cp.line) = true := by rfl)
    (hs : swapsWith (.Call (.Attribute (.Name x p) "pop" p4) [] [] cp) none pos.line X.env = pure false := by rfl) (hK : X.K = K := by rfl) :
    PSD X g E (.Expr (.Call (.Attribute (.Name x p) "pop" p4) [] [] cp) pos) (tDrop (tBM0 K "list" rPop (tVar i))) (asPopL i) := by
  subst hK
  exact ⟨ps_expr (pe_bm0 PySem.F.plainAttrs_list PySem.F.slot_list_pop PySem.F.type_list_pop mt_pop hn hbase hline) hs, ss_popL (g := g.at X.K)⟩
end
/-! {k: v, ..} of texts -/
abbrev ADK := List Sl → Res (List (Str × D))
def dkNil : ADK := fun ρ => .ok [] ρ
def dkCons (k : Str) (a : AE) (b : ADK) : ADK := fun ρ => (a ρ).bind fun d ρ1 => (b ρ1).bind fun r ρ2 => .ok ((k, d) :: r) ρ2
def aDisp (a : ADK) : AE := fun ρ => (a ρ).bind fun kvs ρ1 => if kvs.length ≤ 15 ∧ (kvs.map (·.1)).Nodup then .ok (.dict (kvs.map fun p => (.str p.1, p.2))) ρ1 else .bad
section
variable {g : G} {E : EX}
/-- the pairs of a display -/
def SDK (g : G) (E : EX) (trs : List (TE × TE)) (a : ADK) : Prop := ∀ (s : S) (Q : List (V × V) → Hp → Prop), s.Ok g → Aft g E s (a s.ρ) (fun kds t => ∀ kvs : List (Key × V), kvs.map (·.1) = kds.map (fun p => Sum.inr p.1) → RepK g.K t.F kvs (kds.map fun p => (.str p.1, p.2)) → Q (kvs.map fun kv => (kV kv.1, kv.2)) t.H) → tPairs trs s.σ s.H Q
theorem sdk_nil : SDK g E [] dkNil := fun s Q ok h => Aft.here (s := s) ok h [] rfl .nil
theorem sdk_cons {k : Str} {te : TE} {a : AE} {trs : List (TE × TE)} {b : ADK} (ha : SE g E te a) (hb : SDK g E trs b) : SDK g E ((tC (.str k), te) :: trs) (dkCons k a b) := fun s Q ok h =>
  ha s _ ok ((Aft.bind h).mono fun d F1 H1 W1 ρ1 ok1 go1 h1 v rv =>
    hb ⟨F1, H1, W1, s.σ, ρ1⟩ _ ok1 ((Aft.bind h1).mono fun kds F2 H2 W2 ρ2 ok2 go2 h2 kvs hk rk =>
      Aft.here (s := ⟨F2, H2, W2, s.σ, ρ2⟩) ok2 h2 ((Sum.inr k, v) :: kvs) (by rw [List.map_cons, List.map_cons, hk]) (.cons (k := Sum.inr k) (Rep.mono go2.f rv) rk)))
theorem merge_new : ∀ (kvs acc : List (Key × V)), ((acc ++ kvs).map (·.1)).Nodup → mergeK acc kvs = acc ++ kvs
  | [], acc, _ => by rw [List.append_nil]; rfl
  | p :: r, acc, h => by
    have hn : p.1 ∉ acc.map (·.1) := by
      rw [List.map_append, List.map_cons, List.nodup_append] at h
      exact fun q => h.2.2 _ q _ List.mem_cons_self rfl
    have hp : putK acc p.1 p.2 = acc ++ [p] := by
      unfold putK
      rw [if_neg]
      intro q
      obtain ⟨kv, h1, h2⟩ := List.any_eq_true.mp q
      exact hn (List.mem_map.mpr ⟨kv, h1, of_decide_eq_true h2⟩)
    show mergeK (putK acc p.1 p.2) r = _
    rw [hp, merge_new r (acc ++ [p]) (by rw [List.append_assoc]; exact h), List.append_assoc]; rfl
theorem se_disp {trs : List (TE × TE)} {a : ADK} (ha : SDK g E trs a) : SE g E (tDisp trs) (aDisp a) := fun s Q ok h => by
  intro p hp
  have h : Aft g E s ((a s.ρ).bind fun kvs ρ1 => if kvs.length ≤ 15 ∧ (kvs.map (·.1)).Nodup then .ok (.dict (kvs.map fun p => (.str p.1, p.2))) ρ1 else .bad) (fun d t => ∀ v, Rep g.K t.F v d → Q v t.H) := h
  obtain ⟨ok1, go1⟩ := S.Ok.junk (o := .dK []) ok hp
  have nW : ¬ s.W p := fun z => (ok.fw p z).2 hp
  refine ha ⟨s.F, upd s.H p (.dK []), s.W, s.σ, s.ρ⟩ _ ok1 ?_
  show Aft g E ⟨s.F, upd s.H p (.dK []), s.W, s.σ, s.ρ⟩ (a s.ρ) _
  revert h
  cases a s.ρ with
  | bad => exact fun h => h
  | exc e ρ' => exact fun h F H W okt got => h F H W okt (go1.trans got)
  | ok kds ρ' =>
    intro h F H W okt got kvs hk rk
    have hHp : H p = some (.dK []) := got.keep p _ upd_same nW
    have hFp : F p = none := got.fr p (by show upd s.H p _ p ≠ none; rw [upd_same]; exact fun q => nomatch q) (ok.ex.free hp) nW
    have hWp : ¬ W p := fun z => by
      rcases got.own p z with z | z
      · exact nW z
      · have z : upd s.H p (.dK []) p = none := z
        rw [upd_same] at z; cases z
    refine ⟨hHp, kvs, rfl, ?_⟩
    have h : Aft g E s (if kds.length ≤ 15 ∧ (kds.map (·.1)).Nodup then .ok (.dict (kds.map fun p => (.str p.1, p.2))) ρ' else .bad) (fun d t => ∀ v, Rep g.K t.F v d → Q v t.H) := h
    split at h
    · rename_i c
      have hkl : kvs.length = kds.length := by
        have := congrArg List.length hk
        rw [List.length_map, List.length_map] at this
        exact this
      have hnd : (([] ++ kvs).map (fun kv : Key × V => kv.1)).Nodup := by
        have e5 : (kds.map fun p : Str × D => (Sum.inr p.1 : Key)) = (kds.map fun p : Str × D => p.1).map Sum.inr := by rw [List.map_map]; rfl
        rw [List.nil_append, hk, e5]
        exact List.Pairwise.map _ (fun a b q e => q (Sum.inr.inj e)) c.2
      refine ⟨by rw [hkl]; exact c.1, ?_⟩
      rw [merge_new kvs [] hnd, List.nil_append]
      obtain ⟨O, k1, k2, k3⟩ := okt.sl
      have exF : Ex F (upd F p (.dK kvs)) := Ex.new hFp
      refine h (upd F p (.dK kvs)) (upd H p (.dK kvs)) W ⟨fun x o hx => ?_, fun x hx => ?_, okt.len, O, k1, k2, fun j x hx => ?_⟩ ⟨got.f.trans exF, fun x o hx hw => ?_, fun x hx hf hw => ?_, fun x hx => ?_, fun j m hj => got.pk j m hj⟩ _ (.dic upd_same (RepK.mono exF rk))
      · have hx : upd F p (.dK kvs) x = some o := hx
        show upd H p (.dK kvs) x = some o
        by_cases e : x = p
        · subst e
          rw [upd_same] at hx ⊢
          exact hx
        · rw [upd_ne e] at hx ⊢
          exact okt.ex x o hx
      · have e : x ≠ p := fun e => hWp (by rw [← e]; exact hx)
        show upd F p (.dK kvs) x = none ∧ upd H p (.dK kvs) x ≠ none
        rw [upd_ne e, upd_ne e]
        exact okt.fw x hx
      · exact (k3 j x hx).keep exF (fun y hy _ => upd_ne fun e => hWp (by rw [← e]; exact k1 j y hy)) fun y hy => hy
      · have e : x ≠ p := fun e => by rw [e, hp] at hx; cases hx
        show upd H p (.dK kvs) x = some o
        rw [upd_ne e]
        exact got.keep x o (by show upd s.H p _ x = _; rw [upd_ne e]; exact hx) hw
      · have e : x ≠ p := fun e => hx (by rw [e]; exact hp)
        show upd F p (.dK kvs) x = none
        rw [upd_ne e]
        exact got.fr x (by show upd s.H p _ x ≠ none; rw [upd_ne e]; exact hx) hf hw
      · rcases got.own x hx with z | z
        · exact .inl z
        · by_cases e : x = p
          · exact absurd (by rw [← e]; exact hx) hWp
          · have z : upd s.H p (.dK []) x = none := z
            rw [upd_ne e] at z
            exact .inr z
    · exact h.elim
end
section
variable {X : Cx} {g : G} {E : EX} {K : Fr}
structure PDK (X : Cx) (g : G) (E : EX) (pos : Pos) (keys : List (Option Expr)) (values : List Expr) (trs : List (TE × TE)) (a : ADK) : Prop where
  pp : PPs X pos keys values trs
  sd : SDK (g.at X.K) E trs a
theorem pdk_nil {pos : Pos} : PDK X g E pos [] [] [] dkNil := ⟨pps_nil, sdk_nil⟩
theorem pdk_cons {pos kp : Pos} {k : Str} {j} {v : Expr} {ks : List (Option Expr)} {vs : List Expr} {te : TE} {α : AE} {trs : List (TE × TE)} {a : ADK} (hv : PD X g E v te α) (hr : PDK X g E pos ks vs trs a) : PDK X g E pos (some (.Constant (.str k) j kp) :: ks) (v :: vs) ((tC (.str k), te) :: trs) (dkCons k α a) :=
  ⟨pps_cons pe_str hv.pe hr.pp, sdk_cons hv.se hr.sd⟩
theorem pd_disp {pos : Pos} {keys : List (Option Expr)} {values : List Expr} {trs : List (TE × TE)} {a : ADK} (h : PDK X g E pos keys values trs a) (h1 : keys.all (·.isSome) = true := by rfl) (h2 : keys.length = values.length := by rfl) (h3 : keys ≠ [] := by simp) (h4 : keys.length ≤ 15 := by simp) : PD X g E (.Dict keys values pos) (tDisp trs) (aDisp a) := ⟨pe_disp h.pp h1 h2 h3 h4, se_disp h.sd⟩
end
/-! evaluation -/
variable {ρ : List Sl}
def lenLB (ρ : List Sl) : Sl → Res PyData
  | .pin (.lst ds) => .ok (.int ds.length) ρ
  | _ => .bad
theorem e_lenL {i : Nat} : aLenL i ρ = lenLB ρ (sl ρ i) := by unfold aLenL lenLB; split <;> rfl
theorem lenLB_l {ds : List PyData} : lenLB ρ (.pin (.lst ds)) = .ok (.int ds.length) ρ := rfl
def pbinB2 (f : D → D → Option D) (d2 : D) (ρ : List Sl) : Sl → Res PyData
  | .pin (.lst ds) => lift (f (.list ds) d2) ρ
  | _ => .bad
def pbinK (f : D → D → Option D) (i : Nat) (d2 : D) (ρ : List Sl) : Res PyData := pbinB2 f d2 ρ (sl ρ i)
def pbinB (f : D → D → Option D) (i : Nat) (b : AE) (ρ : List Sl) : Sl → Res PyData
  | .pin (.lst _) => (b ρ).bind (pbinK f i)
  | _ => .bad
theorem e_pbin {f : D → D → Option D} {i : Nat} {b : AE} : aPBin f i b ρ = pbinB f i b ρ (sl ρ i) := by
  unfold aPBin pbinB
  split
  · congr 1
  · rfl
theorem pbinB_l {f : D → D → Option D} {i : Nat} {b : AE} {ds : List PyData} : pbinB f i b ρ (.pin (.lst ds)) = (b ρ).bind (pbinK f i) := rfl
theorem pbinK_e {f : D → D → Option D} {i : Nat} {d2 : D} : pbinK f i d2 ρ = pbinB2 f d2 ρ (sl ρ i) := rfl
theorem pbinB2_l {f : D → D → Option D} {d2 : D} {ds : List PyData} : pbinB2 f d2 ρ (.pin (.lst ds)) = lift (f (.list ds) d2) ρ := rfl
def appLB2 (i : Nat) (d : D) (ρ : List Sl) : Sl → SRes
  | .pin (.lst ds) => if ds.length ≤ 10000 then .nx (ρ.set i (.pin (.lst (ds ++ [d])))) else .bad
  | _ => .bad
def appLK (i : Nat) (d : D) (ρ : List Sl) : SRes := appLB2 i d ρ (sl ρ i)
def appLB (i : Nat) (a : AE) (ρ : List Sl) : Sl → SRes
  | .pin (.lst _) => (a ρ).thn (appLK i)
  | _ => .bad
theorem e_appL {i : Nat} {a : AE} : asAppL i a ρ = appLB i a ρ (sl ρ i) := by
  unfold asAppL appLB
  split
  · congr 1
  · rfl
theorem appLB_l {i : Nat} {a : AE} {ds : List PyData} : appLB i a ρ (.pin (.lst ds)) = (a ρ).thn (appLK i) := rfl
theorem appLK_e {i : Nat} {d : D} : appLK i d ρ = appLB2 i d ρ (sl ρ i) := rfl
theorem appLB2_le {i : Nat} {d : D} {ds : List PyData} (h : ds.length ≤ 10000) : appLB2 i d ρ (.pin (.lst ds)) = .nx (ρ.set i (.pin (.lst (ds ++ [d])))) := if_pos h
def popLB (i : Nat) (ρ : List Sl) : Sl → SRes
  | .pin (.lst ds) => if ds = [] then .bad else .nx (ρ.set i (.pin (.lst ds.dropLast)))
  | _ => .bad
theorem e_popL {i : Nat} : asPopL i ρ = popLB i ρ (sl ρ i) := by unfold asPopL popLB; split <;> rfl
theorem popLB_snoc {i : Nat} {ds : List PyData} {d : PyData} : popLB i ρ (.pin (.lst (ds ++ [d]))) = .nx (ρ.set i (.pin (.lst ds))) := by
  unfold popLB
  simp only [List.append_eq_nil_iff, List.cons_ne_self, reduceCtorEq, and_false, if_false, List.dropLast_concat]
def pinLB (i : Nat) (ds : List PyData) (ρ : List Sl) : SRes := if ds.length ≤ 1000 then nxO (putS ρ i (.pin (.lst ds))) else .bad
theorem e_pinL {i : Nat} {a : AD} : asPinL i a ρ = (a ρ).thn (pinLB i) := by
  unfold asPinL
  congr 1
theorem pinLB_le {i : Nat} {ds : List PyData} (h : ds.length ≤ 1000) : pinLB i ds ρ = nxO (putS ρ i (.pin (.lst ds))) := if_pos h
theorem e_dkNil : dkNil ρ = .ok [] ρ := rfl
def dkH (k : Str) (d : D) (r : List (Str × D)) (ρ : List Sl) : Res (List (Str × D)) := .ok ((k, d) :: r) ρ
def dkK (k : Str) (b : ADK) (d : D) (ρ : List Sl) : Res (List (Str × D)) := (b ρ).bind (dkH k d)
theorem e_dkCons {k : Str} {a : AE} {b : ADK} : dkCons k a b ρ = (a ρ).bind (dkK k b) := rfl
theorem dkK_e {k : Str} {b : ADK} {d : D} : dkK k b d ρ = (b ρ).bind (dkH k d) := rfl
theorem dkH_e {k : Str} {d : D} {r : List (Str × D)} : dkH k d r ρ = .ok ((k, d) :: r) ρ := rfl
def dispK (kvs : List (Str × D)) (ρ : List Sl) : Res PyData := if kvs.length ≤ 15 ∧ (kvs.map (·.1)).Nodup then .ok (.dict (kvs.map fun p => (.str p.1, p.2))) ρ else .bad
theorem e_disp {a : ADK} : aDisp a ρ = (a ρ).bind dispK := rfl
theorem dispK_ok {kvs : List (Str × D)} (h : kvs.length ≤ 15 ∧ (kvs.map (·.1)).Nodup) : dispK kvs ρ = .ok (.dict (kvs.map fun p => (.str p.1, p.2))) ρ := if_pos h
end DL

namespace Lw
open PySem PySem.Spec PyProof.Rows L2 DL
/-! ### the meanings -/
def b_is_whole : AS := (asRet (aAndV (aIsi "int" (aVar 0)) (aAndV (aNotV (aIsi "bool" (aVar 0))) ((aChain oLe oLe (aVar 1) (aVar 0) (aVar 2))))))
def f_is_whole : Fn := runF 3 3 b_is_whole
def b_is_value : AS := (asRet (aCall f_is_whole (aaCons (aVar 0) (aaCons (aNeg (aC (.int 999))) (aaCons (aC (.int 999)) aaNil)))))
def f_is_value : Fn := runF 1 1 b_is_value
def b_need_value : AS := (asIf (aNot (aTest (aCall f_is_value (aaCons (aVar 0) aaNil)))) (asRaise 3) asNext)
def f_need_value : Fn := runF 1 1 b_need_value
def b_need_stretch : AS := (asIf (aOr (aNot (aTest (aCall f_is_whole (aaCons (aVar 1) (aaCons (aC (.int 0)) (aaCons (aBin oSub (aBin oIdx (aVar 0) (aC (.int 0))) (aC (.int 1))) aaNil)))))) ((aNot (aTest (aCall f_is_whole (aaCons (aVar 2) (aaCons (aVar 1) (aaCons (aBin oSub (aBin oIdx (aVar 0) (aC (.int 0))) (aC (.int 1))) aaNil)))))))) (asRaise 2) asNext)
def f_need_stretch : Fn := runF 3 3 b_need_stretch
def b_from_list : AS := (asSeq (asOwnL 1 aNil) (asSeq (asFor (aEnum (aCons (aVar 0) aNil)) (agTup 2 (agCons (agName 2) (agCons (agName 3) agNil))) (asIf (aOr (aTest (aOBin oEq 1 (aLst aNil))) ((aTest (aBin oNe (aBin oIdx (aOBin oIdx 1 (aNeg (aC (.int 1)))) (aC (.int 1))) (aVar 3))))) (asApp 1 (aTup (aCons (aVar 2) (aCons (aVar 3) aNil)))) asNext)) (asFrz 1 (asRet (aTup (aCons (aCB oLen (aCons (aVar 0) aNil)) (aCons (aCB oTupleOf (aCons (aVar 1) aNil)) aNil)))))))
def f_from_list : Fn := runF 1 4 b_from_list
def b_to_list : AS := (asSeq (asOwnL 1 aNil) (asSeq (asAsg (aBin oAdd (aLc [3, 4] (aItT (aSl (aBin oIdx (aVar 0) (aC (.int 1))) (aPart (aC (.int 1))) aNoPart)) (agTup 2 (agCons (agName 3) (agCons (agName 4) agNil))) aYes (aVar 3)) (aLst (aCons (aBin oIdx (aVar 0) (aC (.int 0))) aNil))) (agName 2)) (asSeq (asFor (aZip (aCons (aBin oIdx (aVar 0) (aC (.int 1))) (aCons (aVar 2) aNil))) (agTup 2 (agCons (agTup 2 (agCons (agName 3) (agCons (agName 4) agNil))) (agCons (agName 5) agNil))) (asExt 1 (aBin oMul (aLst (aCons (aVar 4) aNil)) (aBin oSub (aVar 5) (aVar 3))))) (asFrz 1 (asRet (aVar 1))))))
def f_to_list : Fn := runF 1 6 b_to_list
def b_checked : AS := (asSeq (asIf (aNot (aTest (aCB oAll (aCons (aLc [1] (aItT (aBin oIdx (aVar 0) (aC (.int 1)))) (agName 1) aYes (aCall f_is_value (aaCons (aBin oIdx (aVar 1) (aC (.int 1))) aaNil))) aNil)))) (asRaise 7) asNext) (asRet (aVar 0)))
def f_checked : Fn := runF 1 2 b_checked
def b_Track_init : AS := (asSeq (asIf (aNot (aTest (aCall f_is_whole (aaCons (aVar 1) (aaCons (aC (.int 1)) (aaCons (aC (.int 60)) aaNil)))))) (asRaise 2) asNext) (asSeq (asDrop (aCall f_need_value (aaCons (aVar 2) aaNil))) (asSeq (asHere 0 (aTup (aCons (aVar 1) (aCons (aTup (aCons (aTup (aCons (aC (.int 0)) (aCons (aVar 2) aNil))) aNil)) aNil)))) (asPast0 0))))
def f_Track_init : Fn := runF 3 3 b_Track_init
def b_Track_line : AS := (asRet (aHere 0))
def f_Track_line : Fn := runF 1 1 b_Track_line
def b_new_value : AS := (asSeq (asIf (aTest (aBin oEq (aVar 0) (aC (.str "put")))) (asRet (aVar 2)) asNext) (asSeq (asIf (aTest (aBin oEq (aVar 0) (aC (.str "add")))) (asRet (aBin oAdd (aVar 1) (aVar 2))) asNext) (asSeq (asIf (aTest (aBin oEq (aVar 0) (aC (.str "lift")))) (asRet (aCB oMax2 (aCons (aVar 1) (aCons (aVar 2) aNil)))) asNext) (asRet (aCB oMin2 (aCons (aVar 1) (aCons (aVar 2) aNil)))))))
def f_new_value : Fn := runF 3 3 b_new_value
def b_Track_change : AS := (asSeq (asDrop (aCall f_need_stretch (aaCons (aHere 0) (aaCons (aVar 2) (aaCons (aVar 3) aaNil))))) (asSeq (asDrop (aCall f_need_value (aaCons (aVar 4) aaNil))) (asSeq (asAsg (aCall f_to_list (aaCons (aHere 0) aaNil)) (agName 5)) (asSeq (asOwnL 6 aNil) (asSeq (asFor (aEnum (aCons (aVar 5) aNil)) (agTup 2 (agCons (agName 7) (agCons (agName 8) agNil))) (asSeq (asAsg (aVar 8) (agName 9)) (asSeq (asIf (aTest (aChain oLe oLe (aVar 2) (aVar 7) (aVar 3))) (asAsg (aCall f_new_value (aaCons (aVar 1) (aaCons (aVar 8) (aaCons (aVar 4) aaNil)))) (agName 9)) asNext) (asApp 6 (aVar 9))))) (asFrz 6 (asSeq (asAsg (aCall f_checked (aaCons (aCall f_from_list (aaCons (aVar 6) aaNil)) aaNil)) (agName 10)) (asSeq (asPush 0) (asSeq (asHere 0 (aVar 10)) (asRet (aCB oLen (aCons (aLc [8, 9] (aZip (aCons (aVar 5) (aCons (aVar 6) aNil))) (agTup 2 (agCons (agName 8) (agCons (agName 9) agNil))) (aTest (aBin oNe (aVar 8) (aVar 9))) (aC (.int 1))) aNil))))))))))))
def f_Track_change : Fn := runF 5 11 b_Track_change
def b_Track_put : AS := (asRet (aMeth 0 f_Track_change (aaCons (aC (.str "put")) (aaCons (aVar 1) (aaCons (aVar 2) (aaCons (aVar 3) aaNil))))))
def f_Track_put : Fn := runF 4 4 b_Track_put
def b_Track_add : AS := (asRet (aMeth 0 f_Track_change (aaCons (aC (.str "add")) (aaCons (aVar 1) (aaCons (aVar 2) (aaCons (aVar 3) aaNil))))))
def f_Track_add : Fn := runF 4 4 b_Track_add
def b_Track_lift : AS := (asRet (aMeth 0 f_Track_change (aaCons (aC (.str "lift")) (aaCons (aVar 1) (aaCons (aVar 2) (aaCons (aVar 3) aaNil))))))
def f_Track_lift : Fn := runF 4 4 b_Track_lift
def b_Track_press : AS := (asRet (aMeth 0 f_Track_change (aaCons (aC (.str "press")) (aaCons (aVar 1) (aaCons (aVar 2) (aaCons (aVar 3) aaNil))))))
def f_Track_press : Fn := runF 4 4 b_Track_press
def b_Track_undo : AS := (asSeq (asIf (aTest (aPast0 0)) (asRaise 8) asNext) (asPopH 0))
def f_Track_undo : Fn := runF 1 1 b_Track_undo
def b__law_cell_at : AS := (asSeq (asIf (aTest (aBin oLt (aVar 1) (aLenP 0))) (asRet (aScr oScrIx 0 (aVar 1))) asNext) (asSeq (asIf (aTest (aScr oScrEq 0 (aLst aNil))) (asRet (aC (.int 0))) asNext) (asRet (aBin oAdd (aBin oMul (aScr oScrIx 0 (aBin oMod (aVar 1) (aLenP 0))) (aC (.int 31))) (aVar 1)))))
def f__law_cell_at : Fn := runF 2 2 b__law_cell_at
def b__law_mixed : AS := (asSeq (asAsg (aBin oMod (aBin oMul (aBin oAdd (aBin oAdd (aCall f__law_cell_at (aaPin 0 (aaCons (aVar 1) aaNil))) (aBin oMul (aC (.int 7919)) (aVar 1))) (aC (.int 1))) (aC (.int 48271))) (aC (.int 2147483647))) (agName 3)) (asRet (aBin oMod (aBin oMod (aBin oAdd (aBin oAdd (aBin oMul (aVar 3) (aVar 3)) (aBin oMul (aC (.int 7)) (aVar 3))) (aVar 1)) (aC (.int 2147483629))) (aVar 2))))
def f__law_mixed : Fn := runF 3 4 b__law_mixed
def b__law_draw : AS := (asSeq (asAppT 1) (asRet (aCall f__law_mixed (aaPin 0 (aaCons (aLenP 1) (aaCons (aVar 2) aaNil))))))
def f__law_draw : Fn := runF 3 3 b__law_draw
def b__law_pick : AS := (asRet (aBin oIdx (aVar 2) (aCall f__law_draw (aaPin 0 (aaPin 1 (aaCons (aCB oLen (aCons (aVar 2) aNil)) aaNil))))))
def f__law_pick : Fn := runF 3 3 b__law_pick
def b__law_line : AS := (asSeq (asOwnL 1 aNil) (asSeq (asFor (aEnum (aCons (aVar 0) aNil)) (agTup 2 (agCons (agName 2) (agCons (agName 3) agNil))) (asIf (aOr (aTest (aBin oEq (aVar 2) (aC (.int 0)))) ((aTest (aBin oNe (aBin oIdx (aVar 0) (aBin oSub (aVar 2) (aC (.int 1)))) (aVar 3))))) (asApp 1 (aTup (aCons (aVar 2) (aCons (aVar 3) aNil)))) asNext)) (asFrz 1 (asRet (aTup (aCons (aCB oLen (aCons (aVar 0) aNil)) (aCons (aCB oTupleOf (aCons (aVar 1) aNil)) aNil)))))))
def f__law_line : Fn := runF 1 4 b__law_line
def b__law_deed : AS := (asSeq (asAsg (aCall f__law_pick (aaPin 0 (aaPin 1 (aaCons (aLst (aCons (aC (.str "put")) (aCons (aC (.str "add")) (aCons (aC (.str "lift")) (aCons (aC (.str "press")) (aCons (aC (.str "undo")) aNil)))))) aaNil)))) (agName 3)) (asSeq (asIf (aTest (aBin oEq (aVar 3) (aC (.str "undo")))) (asRet (aTup (aCons (aC (.str "undo")) aNil))) asNext) (asSeq (asAsg (aCall f__law_draw (aaPin 0 (aaPin 1 (aaCons (aVar 2) aaNil)))) (agName 4)) (asSeq (asAsg (aBin oAdd (aVar 4) (aCall f__law_draw (aaPin 0 (aaPin 1 (aaCons (aBin oSub (aVar 2) (aVar 4)) aaNil))))) (agName 5)) (asRet (aTup (aCons (aVar 3) (aCons (aVar 4) (aCons (aVar 5) (aCons (aBin oSub (aCall f__law_draw (aaPin 0 (aaPin 1 (aaCons (aCall f__law_pick (aaPin 0 (aaPin 1 (aaCons (aLst (aCons (aC (.int 9)) (aCons (aC (.int 9)) (aCons (aC (.int 1999)) aNil)))) aaNil)))) aaNil)))) (aC (.int 4))) aNil))))))))))
def f__law_deed : Fn := runF 3 6 b__law_deed
def b__law_own : AS := (asSeq (asIf (aTest (aBin oEq (aBin oIdx (aVar 1) (aC (.int 0))) (aC (.str "undo")))) (asSeq (asIf (aTest (aBin oEq (aLenL 0) (aC (.int 1)))) (asRet (aTup (aCons (aC (.str "refused")) (aCons (aC (.int 8)) aNil)))) asNext) (asSeq (asPopL 0) (asRet (aC .none)))) asNext) (asSeq (asAsg (aVar 1) (agTup 4 (agCons (agName 2) (agCons (agName 3) (agCons (agName 4) (agCons (agName 5) agNil)))))) (asSeq (asIf (aTest (aBin oGt (aVar 5) (aC (.int 999)))) (asRet (aTup (aCons (aC (.str "refused")) (aCons (aC (.int 3)) aNil)))) asNext) (asSeq (asOwnC 6 (aPBin oIdx 0 (aNeg (aC (.int 1))))) (asSeq (asFor (aRng2 (aCons (aVar 3) (aCons (aBin oAdd (aVar 4) (aC (.int 1))) aNil))) (agName 7) (asSeq (asAsg (aOBin oIdx 6 (aVar 7)) (agName 8)) (asSetI 6 (aBin oGetK (aDisp (dkCons "put" (aVar 5) (dkCons "add" (aBin oAdd (aVar 8) (aVar 5)) (dkCons "lift" (aCB oMax2 (aCons (aVar 8) (aCons (aVar 5) aNil))) (dkCons "press" (aCB oMin2 (aCons (aVar 8) (aCons (aVar 5) aNil))) dkNil))))) (aVar 2)) (aVar 7)))) (asFrz 6 (asSeq (asIf (aOr (aTest (aBin oGt (aCB oMax (aCons (aVar 6) aNil)) (aC (.int 999)))) ((aTest (aBin oLt (aCB oMin (aCons (aVar 6) aNil)) (aNeg (aC (.int 999))))))) (asRet (aTup (aCons (aC (.str "refused")) (aCons (aC (.int 7)) aNil)))) asNext) (asSeq (asAppL 0 (aVar 6)) (asRet (aCB oLen (aCons (aLc [9, 10] (aZip (aCons (aPBin oIdx 0 (aNeg (aC (.int 2)))) (aCons (aVar 6) aNil))) (agTup 2 (agCons (agName 9) (agCons (agName 10) agNil))) (aTest (aBin oNe (aVar 9) (aVar 10))) (aC (.int 1))) aNil)))))))))))
def f__law_own : Fn := runF 2 11 b__law_own
def b__law_which : AS := (asSeq (asOwnL 1 (aCons (aIsE 0 0) (aCons (aIsE 0 1) (aCons (aIsE 0 2) (aCons (aIsE 0 3) aNil))))) (asSeq (asExt 1 (aLst (aCons (aIsE 0 4) (aCons (aIsE 0 5) (aCons (aIsE 0 6) (aCons (aIsE 0 7) aNil)))))) (asSeq (asExt 1 (aLst (aCons (aIsE 0 8) (aCons (aIsE 0 9) aNil)))) (asFrz 1 (asSeq (asIf (aOr (aTest (aBin oNe (aMtL oCountB (aVar 1) (aC (.bool true))) (aC (.int 1)))) ((aNot (aTest (aIsV 0))))) (asRet (aTup (aCons (aC (.str "refused")) (aCons (aNeg (aC (.int 1))) aNil)))) asNext) (asRet (aTup (aCons (aC (.str "refused")) (aCons (aMtL oIndexB (aVar 1) (aC (.bool true))) aNil)))))))))
def f__law_which : Fn := runF 1 2 b__law_which
def b__law_do : AS := (asTry 10 2 f__law_which (asSeq (asIf (aTest (aBin oEq (aBin oIdx (aVar 1) (aC (.int 0))) (aC (.str "put")))) (asRet (aMeth 0 f_Track_put (aaCons (aBin oIdx (aVar 1) (aC (.int 1))) (aaCons (aBin oIdx (aVar 1) (aC (.int 2))) (aaCons (aBin oIdx (aVar 1) (aC (.int 3))) aaNil))))) asNext) (asSeq (asIf (aTest (aBin oEq (aBin oIdx (aVar 1) (aC (.int 0))) (aC (.str "add")))) (asRet (aMeth 0 f_Track_add (aaCons (aBin oIdx (aVar 1) (aC (.int 1))) (aaCons (aBin oIdx (aVar 1) (aC (.int 2))) (aaCons (aBin oIdx (aVar 1) (aC (.int 3))) aaNil))))) asNext) (asSeq (asIf (aTest (aBin oEq (aBin oIdx (aVar 1) (aC (.int 0))) (aC (.str "lift")))) (asRet (aMeth 0 f_Track_lift (aaCons (aBin oIdx (aVar 1) (aC (.int 1))) (aaCons (aBin oIdx (aVar 1) (aC (.int 2))) (aaCons (aBin oIdx (aVar 1) (aC (.int 3))) aaNil))))) asNext) (asSeq (asIf (aTest (aBin oEq (aBin oIdx (aVar 1) (aC (.int 0))) (aC (.str "press")))) (asRet (aMeth 0 f_Track_press (aaCons (aBin oIdx (aVar 1) (aC (.int 1))) (aaCons (aBin oIdx (aVar 1) (aC (.int 2))) (aaCons (aBin oIdx (aVar 1) (aC (.int 3))) aaNil))))) asNext) (asRet (aMeth 0 f_Track_undo aaNil)))))))
def f__law_do : Fn := runF 2 3 b__law_do
def b_law : AS := (asSeq (asTown 1) (asSeq (asAsg (aBin oAdd (aC (.int 1)) (aCall f__law_draw (aaPin 0 (aaPin 1 (aaCons (aC (.int 60)) aaNil))))) (agName 2)) (asSeq (asAsg (aCall f__law_pick (aaPin 0 (aaPin 1 (aaCons (aLst (aCons (aC (.int 0)) (aCons (aC (.int 0)) (aCons (aC (.int 5)) (aCons (aNeg (aC (.int 999))) (aCons (aC (.int 999)) aNil)))))) aaNil)))) (agName 3)) (asSeq (asMake 4 f_Track_init (aCons (aVar 2) (aCons (aVar 3) aNil))) (asSeq (asPinL 5 (aCons (aBin oMul (aLst (aCons (aVar 3) aNil)) (aVar 2)) aNil)) (asSeq (asFor (aRng1 (aCons (aCall f__law_draw (aaPin 0 (aaPin 1 (aaCons (aCall f__law_pick (aaPin 0 (aaPin 1 (aaCons (aLst (aCons (aC (.int 31)) (aCons (aC (.int 31)) (aCons (aC (.int 31)) (aCons (aC (.int 200)) aNil))))) aaNil)))) aaNil)))) aNil)) (agName 6) (asSeq (asAsg (aCall f__law_deed (aaPin 0 (aaPin 1 (aaCons (aVar 2) aaNil)))) (agName 7)) (asIf (aOr (aTest (aBin oNe (aCall f__law_do (aaPin 4 (aaCons (aVar 7) aaNil))) (aCall f__law_own (aaPin 5 (aaCons (aVar 7) aaNil))))) ((aTest (aBin oNe (aMeth 4 f_Track_line aaNil) (aCall f__law_line (aaCons (aPBin oIdx 5 (aNeg (aC (.int 1)))) aaNil)))))) (asRet (aC (.bool false))) asNext))) (asSeq (asWhile 200 (aTest (aBin oGt (aLenL 5) (aC (.int 1)))) (asSeq (asPopL 5) (asIf (aOr (aTest (aBin oNotN (aCall f__law_do (aaPin 4 (aaCons (aTup (aCons (aC (.str "undo")) aNil)) aaNil))) (aC .none))) ((aTest (aBin oNe (aMeth 4 f_Track_line aaNil) (aCall f__law_line (aaCons (aPBin oIdx 5 (aNeg (aC (.int 1)))) aaNil)))))) (asRet (aC (.bool false))) asNext))) (asRet (aBin oEq (aCall f__law_do (aaPin 4 (aaCons (aTup (aCons (aC (.str "undo")) aNil)) aaNil))) (aTup (aCons (aC (.str "refused")) (aCons (aC (.int 8)) aNil))))))))))))
def f_law : Fn := runF 1 8 b_law
end Lw

namespace Lw
open PySem PySem.Spec PyProof.Rows L2 DL
local macro_rules | `(tactic| walk_at "ev") => `(tactic| simp -implicitDefEqProofs only [e_run, e_var, e_c, e_bin, e_neg, e_test, e_not, e_and, e_or, e_andV, e_orV, e_notV, e_if, e_chain, e_isi, e_cb, e_cons, e_nil, e_tup, e_lst, e_sl, e_part, e_noPart, e_rev, e_lenO, e_lenP, e_scr, e_obin, e_slO, e_call, res_ok, res_exc, e_aacons, e_aanil, e_aapin, e_seq, e_next, e_brk, e_cont, e_drop, e_ret, e_ifS, nxO_some, e_asg, e_par, e_raise, e_town, e_ownL, e_ownD, e_app, e_appT, e_ext, e_setI, runO_some, e_frz, e_for, e_while, e_itL, e_itT, e_rng1, e_rng2, e_enum, e_zip, e_zip3, kZip3, kZip33, e_lc, e_yes, bindO_some, g_name, g_tup2, g_tup3, g_tup4, g_lst2, g_lst3, g_nil, g_cons, putS_0n, putS_0d, putS_0o, putS_0j, plainS_j, putS_s, kTup_le, kLst_le, kOwnL_le, appB_le, sAppT_le, extB_le, bind_ok', bind_exc', thn_ok', thn_exc', nox_ok', lift_some, seq_nx', seq_rt', seq_ct', seq_bk', seq_exc', loop_nx, loop_ct, loop_bk, loop_rt, loop_exc, kLift, kBin, kNeg, kTest, kNot, kNotV, kPick_t, kPick_f, kOk, kChain, kChain1, kChain2, kIsi, kCB, kHead, kCons, kSl, kSl1, kSl2, kPart, kRev, kCall, kAA, kPin, kNx, kRt, kAsg, kPar, kApp, sApp, kExt, sExt, kSet, kSet1, kSet2, setB, kFor, kWh, kItL, kItT, kEnum, kZip, kZip2, kLcE, kLc, kLc1, kLc2, varB, lenB, lenPB, scrB, kOwn, ownB, sOwn, slB, kSlO1, kSlO2, sSlO, end_rt', end_nx', end_exc', tyD, kit_NoneType_int, kit_NoneType_bool, kit_NoneType_tuple, kit_NoneType_list, kit_NoneType_str, kit_bool_int, kit_bool_bool, kit_bool_tuple, kit_bool_list, kit_bool_str, kit_int_int, kit_int_bool, kit_int_tuple, kit_int_list, kit_int_str, kit_str_int, kit_str_bool, kit_str_tuple, kit_str_list, kit_str_str, kit_list_int, kit_list_bool, kit_list_tuple, kit_list_list, kit_list_str, kit_tuple_int, kit_tuple_bool, kit_tuple_tuple, kit_tuple_list, kit_tuple_str, kit_dict_int, kit_dict_bool, kit_dict_tuple, kit_dict_list, kit_dict_str, pinsFrom, sl, isPin, noPin, plainS_n, plainS_d, argS, pinsOk, putPins, frz, wipeS, backS, seqD, oAdd_int, oSub_int, oCmp, oLen_l, oLen_t, oTupleOf, oListOf, oInt1, idx_0, idx_1, idx_2, idx_3, idx_l0, oEq_int, oNe_int, oIsN, oNotN, DL.isNon, List.length_cons, List.length_nil, List.map_cons, List.map_nil, List.set_cons_zero, List.set_cons_succ, List.replicate, List.cons_append, List.nil_append, List.append_nil, List.all_cons, List.all_nil, List.contains_cons, List.contains_nil, Option.map_some, Option.bind_some, Nat.reduceSub, Nat.reduceAdd, Nat.reduceLeDiff, if_true, if_false, Bool.false_eq_true, eq_self, Nat.reduceBEq, Bool.or_false, Bool.or_true, Bool.false_or, Bool.true_or, Nat.zero_add, cz0, cz1, cz2, cz3, cz4, cz5, cz6, cz7, cz8, cz9, cz10, cz11, cz12, cz13, cz14, cz15, cz16, cz17, Int.reduceEq, Int.reduceLT, Int.reduceLE, Int.reduceAdd, Int.reduceSub, Int.reduceNeg, Int.reduceMul, decide_true, decide_false, Bool.and_false, Bool.false_and, Bool.and_true, Bool.true_and, Bool.not_false, Bool.not_true, oMax2_int, oMin2_int, oAbs_int, sl_l, sl_t, seqD_l, seqD_t, List.length_map, List.length_append, enumD_map, zipD_map, zip3D_map, cut_1, map_tail', ixN_last, e_mtL, kMtL_l, oSum_il, oSorted_il, oNe_line, oEq_line, set_last, set_lastM, e_try, try_rt, try_nx, e_menu, e_lz, kLZ, e_ez, kEz, e_ownC, ownB', e_parL, parLB, oIn_il, oNIn_il, e_chain3, kCh, kCh1, kCh2, kCh3, kCh4, e_revT, kRevT, e_setD, kSetD, kSetD1, kSetD2, e_callV, callV_0, callV_1, callV_2, e_forF3, kF1, kF2, loopF_nx, e_get, kGet1, kGet2, kGet3, e_orLast, orLB, e_ownD1, e_getD, sGetD, kGetD1, kGetD2, getDB, e_m1, kM1_s, e_sortIt, kSortIt, e_view, kView, e_dict0, e_mulF, mulA_l, e_rngD, e_ownF, e_dropF, e_fr, freshB_ok, freshR_ok, ownF, argNoL, noL, noLs, sameK, noLs_ints, noLs_st, noL_line, nxO_some, e_aHere, hereR_t, e_aPast0, past0R_t, e_aPastT, pastTR_t, e_asPush, e_asHere, kHere, hereB_t, hereB_r, e_asPast0, pastB_t, pastB_h, e_asPastL, kPastL_t, kPastL_l, e_asPopH, e_meth, methB_t, e_make, makeR_ok, makeR_exc, e_tmp, e_tmpB, tmpR_ok, tmpR_exc, tmp2_ok, e_callT, callTR_ok, e_retP, e_runT, outT_nx, outTR_t, outT_exc, e_try0, try0_rt, e_copyO, copyB_l, e_lenL, lenLB_l, e_pbin, pbinB_l, pbinK_e, pbinB2_l, e_appL, appLB_l, appLK_e, e_popL, e_pinL, e_dkNil, e_dkCons, dkK_e, dkH_e, e_disp])
local macro_rules | `(tactic| walk_at "evh") => `(tactic| simp -implicitDefEqProofs only [e_run, e_var, e_c, e_bin, e_neg, e_test, e_not, e_and, e_or, e_andV, e_orV, e_notV, e_if, e_chain, e_isi, e_cb, e_cons, e_nil, e_tup, e_lst, e_sl, e_part, e_noPart, e_rev, e_lenO, e_lenP, e_scr, e_obin, e_slO, e_call, res_ok, res_exc, e_aacons, e_aanil, e_aapin, e_seq, e_next, e_brk, e_cont, e_drop, e_ret, e_ifS, nxO_some, e_asg, e_par, e_raise, e_town, e_ownL, e_ownD, e_app, e_appT, e_ext, e_setI, runO_some, e_frz, e_for, e_while, e_itL, e_itT, e_rng1, e_rng2, e_enum, e_zip, e_zip3, kZip3, kZip33, e_lc, e_yes, bindO_some, g_name, g_tup2, g_tup3, g_tup4, g_lst2, g_lst3, g_nil, g_cons, putS_0n, putS_0d, putS_0o, putS_0j, plainS_j, putS_s, kTup_le, kLst_le, kOwnL_le, appB_le, sAppT_le, extB_le, bind_ok', bind_exc', thn_ok', thn_exc', nox_ok', lift_some, seq_nx', seq_rt', seq_ct', seq_bk', seq_exc', loop_nx, loop_ct, loop_bk, loop_rt, loop_exc, kLift, kBin, kNeg, kTest, kNot, kNotV, kPick_t, kPick_f, kOk, kChain, kChain1, kChain2, kIsi, kCB, kHead, kCons, kSl, kSl1, kSl2, kPart, kRev, kCall, kAA, kPin, kNx, kRt, kAsg, kPar, kApp, sApp, kExt, sExt, kSet, kSet1, kSet2, setB, kFor, kWh, kItL, kItT, kEnum, kZip, kZip2, kLcE, kLc, kLc1, kLc2, varB, lenB, lenPB, scrB, kOwn, ownB, sOwn, slB, kSlO1, kSlO2, sSlO, end_rt', end_nx', end_exc', tyD, kit_NoneType_int, kit_NoneType_bool, kit_NoneType_tuple, kit_NoneType_list, kit_NoneType_str, kit_bool_int, kit_bool_bool, kit_bool_tuple, kit_bool_list, kit_bool_str, kit_int_int, kit_int_bool, kit_int_tuple, kit_int_list, kit_int_str, kit_str_int, kit_str_bool, kit_str_tuple, kit_str_list, kit_str_str, kit_list_int, kit_list_bool, kit_list_tuple, kit_list_list, kit_list_str, kit_tuple_int, kit_tuple_bool, kit_tuple_tuple, kit_tuple_list, kit_tuple_str, kit_dict_int, kit_dict_bool, kit_dict_tuple, kit_dict_list, kit_dict_str, pinsFrom, sl, isPin, noPin, plainS_n, plainS_d, argS, pinsOk, putPins, frz, wipeS, backS, seqD, oAdd_int, oSub_int, oCmp, oLen_l, oLen_t, oTupleOf, oListOf, oInt1, idx_0, idx_1, idx_2, idx_3, idx_l0, oEq_int, oNe_int, oIsN, oNotN, DL.isNon, List.length_cons, List.length_nil, List.map_cons, List.map_nil, List.set_cons_zero, List.set_cons_succ, List.replicate, List.cons_append, List.nil_append, List.append_nil, List.all_cons, List.all_nil, List.contains_cons, List.contains_nil, Option.map_some, Option.bind_some, Nat.reduceSub, Nat.reduceAdd, Nat.reduceLeDiff, if_true, if_false, Bool.false_eq_true, eq_self, Nat.reduceBEq, Bool.or_false, Bool.or_true, Bool.false_or, Bool.true_or, Nat.zero_add, cz0, cz1, cz2, cz3, cz4, cz5, cz6, cz7, cz8, cz9, cz10, cz11, cz12, cz13, cz14, cz15, cz16, cz17, Int.reduceEq, Int.reduceLT, Int.reduceLE, Int.reduceAdd, Int.reduceSub, Int.reduceNeg, Int.reduceMul, decide_true, decide_false, Bool.and_false, Bool.false_and, Bool.and_true, Bool.true_and, Bool.not_false, Bool.not_true, oMax2_int, oMin2_int, oAbs_int, sl_l, sl_t, seqD_l, seqD_t, List.length_map, List.length_append, enumD_map, zipD_map, zip3D_map, cut_1, map_tail', ixN_last, e_mtL, kMtL_l, oSum_il, oSorted_il, oNe_line, oEq_line, set_last, set_lastM, e_try, try_rt, try_nx, e_menu, e_lz, kLZ, e_ez, kEz, e_ownC, ownB', e_parL, parLB, oIn_il, oNIn_il, e_chain3, kCh, kCh1, kCh2, kCh3, kCh4, e_revT, kRevT, e_setD, kSetD, kSetD1, kSetD2, e_callV, callV_0, callV_1, callV_2, e_forF3, kF1, kF2, loopF_nx, e_get, kGet1, kGet2, kGet3, e_orLast, orLB, e_ownD1, e_getD, sGetD, kGetD1, kGetD2, getDB, e_m1, kM1_s, e_sortIt, kSortIt, e_view, kView, e_dict0, e_mulF, mulA_l, e_rngD, e_ownF, e_dropF, e_fr, freshB_ok, freshR_ok, ownF, argNoL, noL, noLs, sameK, noLs_ints, noLs_st, noL_line, nxO_some, e_aHere, hereR_t, e_aPast0, past0R_t, e_aPastT, pastTR_t, e_asPush, e_asHere, kHere, hereB_t, hereB_r, e_asPast0, pastB_t, pastB_h, e_asPastL, kPastL_t, kPastL_l, e_asPopH, e_meth, methB_t, e_make, makeR_ok, makeR_exc, e_tmp, e_tmpB, tmpR_ok, tmpR_exc, tmp2_ok, e_callT, callTR_ok, e_retP, e_runT, outT_nx, outTR_t, outT_exc, e_try0, try0_rt, e_copyO, copyB_l, e_lenL, lenLB_l, e_pbin, pbinB_l, pbinK_e, pbinB2_l, e_appL, appLB_l, appLK_e, e_popL, e_pinL, e_dkNil, e_dkCons, dkK_e, dkH_e, e_disp, oAdd_l, oAdd_t, oMul_int, oMul_intR, oMul_rep, oMod_int, oPow_5, oIdx_at, kRng1_le, kRng2_le, kLc3_le, appB_le, extB_le, sAppT_le, *])

/-- what a def hands back where no pinned name is among its arguments -/
abbrev okD (n : Nat) (d : PyData) : FRes := .ok d (List.replicate n .none)
theorem at_append_left {a b : List Int} {i : Int} (h0 : 0 ≤ i) (h : i < a.length) : at' (a ++ b) i = at' a i := by
  unfold at'
  rw [List.getD_eq_getElem?_getD, List.getD_eq_getElem?_getD, List.getElem?_append_left (by omega)]
theorem at_append_right {a b : List Int} {i : Int} (h : (a.length : Int) ≤ i) : at' (a ++ b) i = at' b (i - a.length) := by
  unfold at'
  rw [List.getD_eq_getElem?_getD, List.getD_eq_getElem?_getD, List.getElem?_append_right (by omega)]
  congr 2; omega
theorem at_ext {a b : List Int} (hl : a.length = b.length) (h : ∀ i : Int, 0 ≤ i → i < a.length → at' a i = at' b i) : a = b := by
  refine List.ext_getElem hl fun n h1 h2 => ?_
  have := h n (by omega) (by omega)
  unfold at' at this
  rw [Int.toNat_natCast, List.getD_eq_getElem?_getD, List.getD_eq_getElem?_getD, List.getElem?_eq_getElem h1, List.getElem?_eq_getElem h2] at this
  exact this
theorem at_take {a : List Int} {n : Nat} {i : Int} (h : i < n) (h0 : 0 ≤ i) : at' (a.take n) i = at' a i := by
  unfold at'
  rw [List.getD_eq_getElem?_getD, List.getD_eq_getElem?_getD, List.getElem?_take_of_lt (by omega)]
theorem at_rep {a : Int} {n : Nat} {i : Int} (h : i < n) (h0 : 0 ≤ i) : at' (List.replicate n a) i = a := by
  unfold at'
  rw [List.getD_eq_getElem?_getD, List.getElem?_replicate, if_pos (by omega)]; rfl
theorem at_rng {f : Int → Int} {lo : Int} {n : Nat} {i : Int} (h : i < n) (h0 : 0 ≤ i) : at' ((rng lo n).map f) i = f (lo + i) := by
  unfold at' rng
  rw [List.getD_eq_getElem?_getD, List.map_map, List.getElem?_map, List.getElem?_range (by omega)]
  show f (lo + (i.toNat : Int)) = _
  rw [Int.toNat_of_nonneg h0]
theorem il_app (x y : List Int) : il (x ++ y) = .list (x.map .int ++ y.map .int) := by rw [il, List.map_append]
theorem cut_nat {α : Type} (l : List α) (a b : Nat) : cutG l (some (a : Int)) (some (b : Int)) = (l.drop a).take (b - a) := by
  unfold cutG
  rw [HT.sIx_nat, HT.sIx_nat]
  by_cases h : a ≤ l.length
  · rw [Nat.min_eq_left h]
    by_cases h2 : b ≤ l.length
    · rw [Nat.min_eq_left h2]
    · rw [Nat.min_eq_right (by omega), List.take_of_length_le (by rw [List.length_drop]; omega), List.take_of_length_le (by rw [List.length_drop]; omega)]
  · rw [List.drop_of_length_le (by omega), List.drop_of_length_le (by omega), List.take_nil, List.take_nil]
theorem map_cut {α β : Type} (f : α → β) (l : List α) (x y : Option Int) : cutG (l.map f) x y = (cutG l x y).map f := by
  unfold cutG
  rw [List.length_map, List.map_take, List.map_drop]
theorem ex_nx {P : List Sl → Prop} {r : SRes} (h : ∃ ρ', r = .nx ρ' ∧ P ρ') : ∃ ρ', (r = .nx ρ' ∨ r = .ct ρ') ∧ P ρ' := by
  obtain ⟨ρ', h1, h2⟩ := h
  exact ⟨ρ', .inl h1, h2⟩
/-- the sum of the first values -/
def ps (vs : List Int) (i : Int) : Int := (vs.take i.toNat).sum
theorem ps_zero (vs : List Int) : ps vs 0 = 0 := by unfold ps; rfl
theorem ps_next {vs : List Int} {i : Int} (h0 : 0 ≤ i) (h : i < vs.length) : ps vs (i + 1) = ps vs i + at' vs i := by
  unfold ps at'
  rw [show (i + 1).toNat = i.toNat + 1 by omega, List.take_succ, List.sum_append, List.getD_eq_getElem?_getD, List.getElem?_eq_getElem (show i.toNat < vs.length by omega)]
  show _ + [vs[i.toNat]].sum = _ + vs[i.toNat]
  simp
theorem ps_same {vs : List Int} {c : Int} {x : Int} (h0 : 0 ≤ x) : ∀ (k : Nat), x + k ≤ vs.length → (∀ i, x ≤ i → i < x + k → at' vs i = c) → ps vs (x + k) = ps vs x + k * c
  | 0, _, _ => by simp
  | k + 1, h, hc => by
    have ih := ps_same h0 k (by omega) (fun i h1 h2 => hc i h1 (by omega))
    rw [show x + ((k + 1 : Nat) : Int) = x + k + 1 by omega, ps_next (by omega) (by omega), ih, hc (x + k) (by omega) (by omega), Int.natCast_succ, Int.add_mul, Int.one_mul]
    omega
def wind (vs : List Int) (m : Nat) (i : Int) : List Int := (vs.drop i.toNat).take m
theorem wind_cut {vs : List Int} {m : Nat} {i : Int} (h : 0 ≤ i) : cutG (vs.map PyData.int) (some i) (some (i + (m : Int))) = (wind vs m i).map .int := by
  obtain ⟨n, rfl⟩ := Int.eq_ofNat_of_zero_le h
  rw [show (n : Int) + (m : Int) = ((n + m : Nat) : Int) by omega, cut_nat, show n + m - n = m by omega]
  unfold wind
  rw [List.map_take, List.map_drop, Int.toNat_natCast]
theorem wind_len {vs : List Int} {m : Nat} {i : Int} (h0 : 0 ≤ i) (h : i + m ≤ vs.length) : (wind vs m i).length = m := by
  unfold wind
  rw [List.length_take, List.length_drop]; omega
theorem wind_at {vs : List Int} {m : Nat} {i j : Int} (h0 : 0 ≤ i) (h1 : 0 ≤ j) (h : j < m) : at' (wind vs m i) j = at' vs (i + j) := by
  unfold wind
  rw [at_take h h1]
  unfold at'
  rw [List.getD_eq_getElem?_getD, List.getD_eq_getElem?_getD, List.getElem?_drop]
  congr 2; omega
theorem snoc_ind {α : Type} {P : List α → Prop} (h0 : P []) (hs : ∀ a v, P a → P (a ++ [v])) (l : List α) : P l := by
  suffices h : ∀ r : List α, P r.reverse by simpa using h l.reverse
  intro r
  induction r with
  | nil => exact h0
  | cons v r ih => rw [List.reverse_cons]; exact hs _ _ ih
theorem bls_map {β : Type} (f : β → Bool) : ∀ l : List β, bls (l.map fun b => .bool (f b)) = some (l.map f)
  | [] => rfl
  | b :: l => by show (bls (l.map fun b => .bool (f b))).map (f b :: ·) = _; rw [bls_map f l]; rfl
theorem all_map {β : Type} (f : β → Bool) (l : List β) : oAll [.list (l.map fun b => .bool (f b))] = some (.bool (l.all f)) := by
  show (bls (l.map fun b => .bool (f b))).map (fun bs => PyData.bool (bs.all id)) = _
  rw [bls_map]
  show some (PyData.bool _) = _
  congr 2
  rw [List.all_map]; rfl
def IsMax (f : Int → Int) (lo hi x : Int) : Prop := (∀ j, lo ≤ j → j ≤ hi → f j ≤ x) ∧ ∃ j, lo ≤ j ∧ j ≤ hi ∧ f j = x
theorem IsMax.uniq {f : Int → Int} {lo hi x y : Int} (h1 : IsMax f lo hi x) (h2 : IsMax f lo hi y) : x = y := by
  obtain ⟨a1, j1, b1, c1, d1⟩ := h1
  obtain ⟨a2, j2, b2, c2, d2⟩ := h2
  have := a1 j2 b2 c2
  have := a2 j1 b1 c1
  omega
theorem at_drop {l : List Int} {n : Nat} {i : Int} (h : 0 ≤ i) : at' (l.drop n) i = at' l (i + n) := by
  unfold at'
  rw [List.getD_eq_getElem?_getD, List.getD_eq_getElem?_getD, List.getElem?_drop]
  congr 2; omega
theorem maxL_at {l : List Int} (h : l ≠ []) : IsMax (at' l) 0 (l.length - 1) (maxL l) := by
  refine ⟨fun j h1 h2 => maxL_le (at_mem h1 (by omega)), ?_⟩
  obtain ⟨n, hn, e⟩ := List.getElem_of_mem (maxL_mem h)
  refine ⟨n, by omega, by omega, ?_⟩
  rw [← e]; unfold at'
  rw [Int.toNat_natCast, List.getD_eq_getElem?_getD, List.getElem?_eq_getElem hn]; rfl
theorem max_take {l : List Int} {i : Int} (h0 : 0 ≤ i) (h : i < l.length) : IsMax (at' l) 0 i (maxL (l.take (i + 1).toNat)) := by
  have hlen : (l.take (i + 1).toNat).length = (i + 1).toNat := by rw [List.length_take]; omega
  obtain ⟨h1, j, h2, h3, h4⟩ := maxL_at (l := l.take (i + 1).toNat) (fun q => by rw [q] at hlen; simp at hlen; omega)
  rw [hlen] at h1 h3
  refine ⟨fun j a b => ?_, j, h2, by omega, ?_⟩
  · rw [← h1 j a (by omega) |> fun _ => at_take (a := l) (n := (i + 1).toNat) (i := j) (by omega) a]
    exact h1 j a (by omega)
  · rw [← h4, at_take (by omega) h2]
theorem max_drop {l : List Int} {i : Int} (h0 : 0 ≤ i) (h : i < l.length) : IsMax (at' l) i (l.length - 1) (maxL (l.drop i.toNat)) := by
  have hlen : (l.drop i.toNat).length = l.length - i.toNat := List.length_drop
  obtain ⟨h1, j, h2, h3, h4⟩ := maxL_at (l := l.drop i.toNat) (fun q => by rw [q] at hlen; simp at hlen; omega)
  rw [hlen] at h1 h3
  refine ⟨fun j a b => ?_, j + i, by omega, by omega, ?_⟩
  · have := h1 (j - i) (by omega) (by omega)
    rw [at_drop (by omega), show j - i + (i.toNat : Int) = j by omega] at this
    exact this
  · rw [← h4, at_drop h2, Int.toNat_of_nonneg h0]
theorem oFdiv_two (x : Int) : oFdiv (.int x) (.int 2) = some (.int (x / 2)) := by
  show (if (2 : Int) ≠ 0 ∧ (2 : Int).natAbs < 1073741824 then some (PyData.int (x.fdiv 2)) else none) = _
  rw [if_pos (by decide), Int.fdiv_eq_ediv_of_nonneg _ (by decide)]
theorem via {x : SRes} (Q P : SRes → Prop) (h : P x) (k : ∀ y, P y → Q y) : Q x := k x h
theorem pair_at {a b : List Int} (f : Int × Int → Int) (e : a.length = b.length) {i : Int} (h0 : 0 ≤ i) (h : i < a.length) : at' ((a.zip b).map f) i = f (at' a i, at' b i) := by
  obtain ⟨n, rfl⟩ := Int.eq_ofNat_of_zero_le h0
  have hn : n < a.length := by omega
  unfold at'
  rw [Int.toNat_natCast, List.getD_eq_getElem?_getD, List.getD_eq_getElem?_getD, List.getD_eq_getElem?_getD, List.getElem?_eq_getElem (by rw [List.length_map, List.length_zip]; omega), List.getElem?_eq_getElem hn, List.getElem?_eq_getElem (show n < b.length by omega), List.getElem_map, List.getElem_zip]
  rfl
theorem at_map {f : Int → Int} {l : List Int} {i : Int} (h0 : 0 ≤ i) (h : i < l.length) : at' (l.map f) i = f (at' l i) := by
  obtain ⟨n, rfl⟩ := Int.eq_ofNat_of_zero_le h0
  have hn : n < l.length := by omega
  unfold at'
  rw [Int.toNat_natCast, List.getD_eq_getElem?_getD, List.getD_eq_getElem?_getD, List.getElem?_eq_getElem (by rw [List.length_map]; exact hn), List.getElem?_eq_getElem hn, List.getElem_map]; rfl
theorem stp_has (l : List Int) {v : Int} : v ∈ l → ∃ q ∈ stp l, q.2 = v := by
  refine snoc_ind (P := fun l => v ∈ l → ∃ q ∈ stp l, q.2 = v) (fun h => by cases h) (fun a x ih h => ?_) l
  rw [stp_snoc]
  rcases List.mem_append.mp h with h | h
  · obtain ⟨q, h1, h2⟩ := ih h
    exact ⟨q, List.mem_append_left _ h1, h2⟩
  · have e : v = x := by simpa using h
    subst e
    by_cases c : a.getLast? = some v
    · obtain ⟨i, j, e⟩ := stp_last a v c
      exact ⟨(j, v), by rw [e]; simp, rfl⟩
    · rw [if_neg c]
      exact ⟨((a.length : Int), v), by simp, rfl⟩
def adj (f : Int → Int → Bool) (l : List Int) : Nat := ((l.zip l.tail).filter fun p => f p.1 p.2).length
theorem adj_cons (f : Int → Int → Bool) (a b : Int) (r : List Int) : adj f (a :: b :: r) = (if f a b = true then 1 else 0) + adj f (b :: r) := by
  show (((a, b) :: (b :: r).zip r).filter fun p => f p.1 p.2).length = _
  by_cases c : f a b = true
  · rw [List.filter_cons_of_pos (p := fun p : Int × Int => f p.1 p.2) (a := (a, b)) c, if_pos c, List.length_cons, Nat.add_comm]; rfl
  · rw [List.filter_cons_of_neg (p := fun p : Int × Int => f p.1 p.2) (a := (a, b)) c, if_neg c, Nat.zero_add]; rfl
theorem adj_st (f : Int → Int → Bool) (hf : ∀ a, f a a = false) : ∀ (k : Nat) (p : Int) (l : List Int), adj f (p :: (DL.st k p l).map (·.2)) = adj f (p :: l)
  | k, p, [] => rfl
  | k, p, v :: r => by
    unfold DL.st
    by_cases c : v = p
    · subst c
      rw [if_pos rfl, adj_st f hf (k + 1) v r, adj_cons, hf]; simp
    · rw [if_neg c, List.map_cons, adj_cons, adj_cons, adj_st f hf (k + 1) v r]
theorem adj_stp (f : Int → Int → Bool) (hf : ∀ a, f a a = false) (l : List Int) : adj f ((stp l).map (·.2)) = adj f l := by
  cases l with
  | nil => rfl
  | cons v r => exact adj_st f hf 1 v r
theorem adj_two : ∀ (k : Nat) (p : Int) (l : List Int), adj (fun a b => decide (a < b)) (p :: (DL.st k p l).map (·.2)) + adj (fun a b => decide (a > b)) (p :: (DL.st k p l).map (·.2)) = (DL.st k p l).length
  | k, p, [] => rfl
  | k, p, v :: r => by
    unfold DL.st
    by_cases c : v = p
    · rw [if_pos c]; exact adj_two (k + 1) p r
    · rw [if_neg c, List.map_cons, adj_cons, adj_cons, List.length_cons]
      have := adj_two (k + 1) v r
      simp only [decide_eq_true_eq] at this ⊢
      split <;> split <;> omega
theorem adj_stp_two {l : List Int} (h : l ≠ []) : adj (fun a b => decide (a < b)) l + adj (fun a b => decide (a > b)) l + 1 = (stp l).length := by
  rw [← adj_stp _ (by simp), ← adj_stp (fun a b => decide (a > b)) (by simp)]
  cases l with
  | nil => exact absurd rfl h
  | cons v r =>
    have := adj_two 1 v r
    show adj _ (v :: (DL.st 1 v r).map (·.2)) + adj _ (v :: (DL.st 1 v r).map (·.2)) + 1 = (DL.st 1 v r).length + 1
    omega
theorem rng_pre {n : Nat} {a : List Int} {b : Int} {c : List Int} (e : rng 0 n = a ++ b :: c) : a = rng 0 a.length ∧ b = a.length ∧ a.length < n := by
  have hl := congrArg List.length e
  rw [rng_len, List.length_append, List.length_cons] at hl
  have key : ∀ m : Nat, m ≤ n → (rng 0 n).take m = rng 0 m := fun m hm => by
    unfold rng
    rw [← List.map_take, List.take_range, Nat.min_eq_left hm]
  have h1 := key a.length (by omega)
  rw [e, List.take_left] at h1
  have h2 := key (a.length + 1) (by omega)
  rw [e, rng_snoc, ← h1] at h2
  rw [show a ++ b :: c = (a ++ [b]) ++ c by simp, show a.length + 1 = (a ++ [b]).length by simp, List.take_left] at h2
  have h3 := List.append_cancel_left h2
  injection h3 with h3 _
  exact ⟨h1, by omega, by omega⟩
theorem oNe_bl (a b : Bool) : oNe (.bool a) (.bool b) = some (.bool (!decide (a = b))) := oNe_dat a b
def plD (l : List Int) : List (Int × Int) := (rng 0 l.length).map fun i => (i, at' l i)
theorem plD_snoc (a : List Int) (v : Int) : plD (a ++ [v]) = plD a ++ [((a.length : Int), v)] := by
  unfold plD
  rw [List.length_append, List.length_singleton, rng_snoc, List.map_append]
  congr 1
  · refine List.map_congr_left fun i hi => ?_
    have := rng_mem.mp hi
    rw [at_append_left (by omega) (by omega)]
  · rw [Int.zero_add, List.map_cons, List.map_nil, at_append_right (Int.le_refl _), Int.sub_self]; rfl
theorem oNe_tpls (l : List (List Int)) : oNe (.list (l.map tpl)) (.list []) = some (.bool (!decide (l = []))) := by
  have := oNe_dat (l.map Tp.mk) ([] : List (Tp Int))
  have e : Dat.d (l.map Tp.mk) = PyData.list (l.map tpl) := by
    show PyData.list _ = _
    rw [List.map_map]; rfl
  rw [e] at this
  refine this.trans ?_
  congr 3
  exact decide_eq_decide.mpr List.map_eq_nil_iff
theorem inner {x : SRes} {R : AS} {P2 : List Sl → Prop} (h : ∃ ρ1, x = .nx ρ1 ∧ ∃ ρ', R ρ1 = .nx ρ' ∧ P2 ρ') : ∃ ρ', SRes.seq x R = .nx ρ' ∧ P2 ρ' := by
  obtain ⟨ρ1, rfl, ρ', h1, h2⟩ := h
  exact ⟨ρ', h1, h2⟩
/-- a loop in a loop's body, with what follows it -/
theorem inner_run {β : Type} {gt : AG} {x R : AS} (g : β → PyData) (P : List β → List Sl → Prop) {P2 : List Sl → Prop} {src : List β} {ρ : List Sl} (h0 : P [] ρ) (hs : ∀ a b c, src = a ++ b :: c → ∀ ρ, P a ρ → ∃ ρ', (runO (gt (g b) ρ) x = .nx ρ' ∨ runO (gt (g b) ρ) x = .ct ρ') ∧ P (a ++ [b]) ρ')
    (k : ∀ ρ', P src ρ' → ∃ ρ2, (R ρ' = .nx ρ2 ∨ R ρ' = .ct ρ2) ∧ P2 ρ2) : ∃ ρ2, (SRes.seq (forGo gt x (src.map g) ρ) R = .nx ρ2 ∨ SRes.seq (forGo gt x (src.map g) ρ) R = .ct ρ2) ∧ P2 ρ2 := by
  obtain ⟨ρ', h1, h2⟩ := for_inv0 (gt := gt) (x := x) g P h0 hs
  rw [h1]
  exact k ρ' h2

theorem st_low : ∀ (k : Nat) (p : Int) (l : List Int) (q : Int × Int), q ∈ st k p l → (k : Int) ≤ q.1 ∧ q.1 < k + l.length ∧ q.2 ∈ l
  | k, p, [], q, h => by cases h
  | k, p, v :: r, q, h => by
    unfold DL.st at h
    rw [List.length_cons]
    split at h
    · obtain ⟨h1, h2, h3⟩ := st_low (k + 1) p r q h
      exact ⟨by omega, by omega, List.mem_cons_of_mem _ h3⟩
    · rcases List.mem_cons.mp h with rfl | h
      · exact ⟨Int.le_refl _, by simp only; omega, List.mem_cons_self⟩
      · obtain ⟨h1, h2, h3⟩ := st_low (k + 1) v r q h
        exact ⟨by omega, by omega, List.mem_cons_of_mem _ h3⟩
theorem stp_low {l : List Int} {q : Int × Int} (h : q ∈ stp l) : 0 ≤ q.1 ∧ q.1 < l.length ∧ q.2 ∈ l := by
  cases l with
  | nil => cases h
  | cons v r =>
    rw [List.length_cons]
    rcases List.mem_cons.mp (show q ∈ (0, v) :: st 1 v r from h) with rfl | h
    · exact ⟨Int.le_refl _, by simp only; omega, List.mem_cons_self⟩
    · obtain ⟨h1, h2, h3⟩ := st_low 1 v r q h
      exact ⟨by omega, by omega, List.mem_cons_of_mem _ h3⟩
theorem st_len : ∀ (k : Nat) (p : Int) (l : List Int), (st k p l).length ≤ l.length
  | _, _, [] => Nat.le_refl _
  | k, p, v :: r => by
    unfold DL.st
    split
    · exact Nat.le_succ_of_le (st_len (k + 1) p r)
    · exact Nat.succ_le_succ (st_len (k + 1) v r)
theorem stp_len : ∀ l : List Int, (stp l).length ≤ l.length
  | [] => Nat.le_refl _
  | v :: r => Nat.succ_le_succ (st_len 1 v r)
/-- each step stands behind the one ahead, with another value -/
theorem st_pairs : ∀ (k : Nat) (j p : Int) (l : List Int), j < k → ∀ q ∈ ((j, p) :: st k p l).zip (st k p l), q.1.1 < q.2.1 ∧ q.1.2 ≠ q.2.2
  | k, j, p, [], _, q, h => by
    rw [show st k p [] = [] from rfl, List.zip_nil_right] at h; cases h
  | k, j, p, v :: r, hj, q, h => by
    unfold DL.st at h
    split at h
    · exact st_pairs (k + 1) j p r (by omega) q h
    · rename_i c
      rw [List.zip_cons_cons] at h
      rcases List.mem_cons.mp h with rfl | h
      · exact ⟨hj, fun e => c e.symm⟩
      · exact st_pairs (k + 1) k v r (by omega) q h
theorem stp_pairs (l : List Int) : ∀ q ∈ (stp l).zip (stp l).tail, q.1.1 < q.2.1 ∧ q.1.2 ≠ q.2.2 := by
  cases l with
  | nil => intro q h; cases h
  | cons v r => exact st_pairs 1 0 v r (by decide)
theorem bls_true {β : Type} : ∀ l : List β, bls (l.map fun _ => .bool true) = some (l.map fun _ => true)
  | [] => rfl
  | _ :: l => by show (bls (l.map fun _ => .bool true)).map (true :: ·) = _; rw [bls_true l]; rfl
theorem all_true {β : Type} (l : List β) : oAll [.list (l.map fun _ => .bool true)] = some (.bool true) := by
  show (bls (l.map fun _ => .bool true)).map (fun bs => PyData.bool (bs.all id)) = _
  rw [bls_true]
  show some (PyData.bool _) = _
  congr 2
  rw [List.all_map]; simp

/-! is_whole -/
theorem is_whole_int (z lo hi : Int) : f_is_whole [.dat (.int z), .dat (.int lo), .dat (.int hi)] = .ok (.bool (decide (lo ≤ z) && decide (z ≤ hi))) [.none, .none, .none] := by
  unfold f_is_whole b_is_whole
  walk_at "ev"
  by_cases h : lo ≤ z
  · simp only [decide_eq_true h]
    walk_at "ev"
  · simp only [decide_eq_false h]
    walk_at "ev"
theorem is_whole_yes {z lo hi : Int} (h1 : lo ≤ z) (h2 : z ≤ hi) : f_is_whole [.dat (.int z), .dat (.int lo), .dat (.int hi)] = .ok (.bool true) [.none, .none, .none] := by
  rw [is_whole_int, decide_eq_true h1, decide_eq_true h2]; rfl
theorem is_whole_no {z lo hi : Int} (h : z < lo ∨ hi < z) : f_is_whole [.dat (.int z), .dat (.int lo), .dat (.int hi)] = .ok (.bool false) [.none, .none, .none] := by
  rw [is_whole_int, ← Bool.decide_and, decide_eq_false (by omega)]

/-! is_value -/
theorem is_value_int (z : Int) : f_is_value [.dat (.int z)] = .ok (.bool (decide (-999 ≤ z) && decide (z ≤ 999))) [.none] := by
  unfold f_is_value b_is_value
  walk_at "ev"
  simp only [is_whole_int]
  walk_at "ev"
theorem is_value_yes {z : Int} (h : -999 ≤ z ∧ z ≤ 999) : f_is_value [.dat (.int z)] = .ok (.bool true) [.none] := by
  rw [is_value_int, decide_eq_true h.1, decide_eq_true h.2]; rfl

/-! need_value -/
theorem need_value_yes {v : Int} (h : -999 ≤ v ∧ v ≤ 999) : f_need_value [.dat (.int v)] = .ok .none [.none] := by
  unfold f_need_value b_need_value
  walk_at "ev"
  simp only [is_value_yes h]
  walk_at "ev"

/-! need_stretch -/
theorem need_stretch_ok {vs : List Int} {a b : Int} (h0 : 0 ≤ a) (h1 : a ≤ b) (h2 : b < vs.length) : f_need_stretch [.dat (lineD vs), .dat (.int a), .dat (.int b)] = .ok .none [.none, .none, .none] := by
  unfold f_need_stretch b_need_stretch
  walk_at "ev"
  simp only [is_whole_yes (z := a) (lo := 0) (hi := (vs.length : Int) - 1) h0 (by omega)]
  walk_at "ev"
  simp only [is_whole_yes (z := b) (lo := a) (hi := (vs.length : Int) - 1) h1 (by omega)]
  walk_at "ev"
theorem need_stretch_no1 {vs : List Int} {x y : PyData} (h : f_is_whole [.dat x, .dat (.int 0), .dat (.int ((vs.length : Int) - 1))] = .ok (.bool false) [.none, .none, .none]) : f_need_stretch [.dat (lineD vs), .dat x, .dat y] = .exc 2 [.none, .none, .none] := by
  unfold f_need_stretch b_need_stretch
  walk_at "ev"
  simp only [h]
  walk_at "ev"
theorem need_stretch_no2 {vs : List Int} {x y : PyData} (h : f_is_whole [.dat x, .dat (.int 0), .dat (.int ((vs.length : Int) - 1))] = .ok (.bool true) [.none, .none, .none]) (h2 : f_is_whole [.dat y, .dat x, .dat (.int ((vs.length : Int) - 1))] = .ok (.bool false) [.none, .none, .none]) : f_need_stretch [.dat (lineD vs), .dat x, .dat y] = .exc 2 [.none, .none, .none] := by
  unfold f_need_stretch b_need_stretch
  walk_at "ev"
  simp only [h]
  walk_at "ev"
  simp only [h2]
  walk_at "ev"

/-! from_list -/
theorem from_list_ok (vs : List Int) (hl : vs.length ≤ 1000) : f_from_list [.dat (il vs)] = .ok (lineD vs) [.none] := by
  have loop : ∃ ρ', forGo (agTup 2 (agCons (agName 2) (agCons (agName 3) agNil))) (asIf (aOr (aTest (aOBin oEq 1 (aLst aNil))) ((aTest (aBin oNe (aBin oIdx (aOBin oIdx 1 (aNeg (aC (.int 1)))) (aC (.int 1))) (aVar 3))))) (asApp 1 (aTup (aCons (aVar 2) (aCons (aVar 3) aNil)))) asNext)
      ((vs.zipIdx 0).map fun p => .tuple [.int (p.2 : Int), .int p.1]) [.dat (il vs), .own (.list []), .none, .none] = .nx ρ' ∧ ∃ o1 o2, ρ' = [.dat (il vs), .own (.list ((stp ((vs.zipIdx 0).map (·.1))).map stD)), jk o1, jk o2] := by
    refine for_inv0 (fun p : Int × Nat => .tuple [.int (p.2 : Int), .int p.1]) (fun pre ρ => ∃ o1 o2, ρ = [.dat (il vs), .own (.list ((stp (pre.map (·.1))).map stD)), jk o1, jk o2]) ⟨none, none, rfl⟩ (fun a b c e ρ ⟨o1, o2, hρ⟩ => ?_)
    subst hρ
    have hb : b.2 = a.length := by have := zip_at a vs 0 b c e; omega
    have hla : a.length ≤ 1000 := by
      have := congrArg List.length e
      rw [List.length_zipIdx, List.length_append] at this
      omega
    have hsl : ((stp (a.map (·.1))).map stD).length ≤ 10000 := by
      rw [List.length_map]
      have := stp_len (a.map (·.1))
      rw [List.length_map] at this
      omega
    refine ⟨[.dat (il vs), .own (.list ((stp ((a ++ [b]).map (·.1))).map stD)), .dat (.int (b.2 : Int)), .dat (.int b.1)], .inl ?_, some _, some _, rfl⟩
    have hm : (a ++ [b]).map (·.1) = a.map (·.1) ++ [b.1] := by rw [List.map_append]; rfl
    rw [hm, stp_snoc]
    walk_at "ev"
    simp only [show oEq (.list ((stp (a.map (·.1))).map stD)) (.list []) = some (.bool (decide (stp (a.map (·.1)) = []))) from oEq_dat (stp (a.map (·.1))) []]
    cases hg : (a.map (·.1)).getLast? with
    | none =>
      have h0 : a.map (·.1) = [] := List.getLast?_eq_none_iff.mp hg
      have h1 : stp (a.map (·.1)) = [] := by rw [h0]; rfl
      simp only [decide_eq_true h1]
      walk_at "ev"
      simp only [appB_le hsl]
      walk_at "ev"
      rw [if_neg (by simp), List.map_append, hb]
      rfl
    | some w =>
      obtain ⟨i, j, hi⟩ := stp_last _ w hg
      have h1 : stp (a.map (·.1)) ≠ [] := by rw [hi]; simp
      simp only [decide_eq_false h1]
      walk_at "ev"
      simp only [show oIdx (.list ((stp (a.map (·.1))).map stD)) (.int (-1)) = some (stD (j, w)) by rw [hi, List.map_append]; exact idx_last _ _]
      walk_at "ev"
      by_cases c : w = b.1
      · simp only [decide_eq_true c]
        walk_at "ev"
        rw [if_pos (by rw [c]), List.append_nil]
      · simp only [decide_eq_false c]
        walk_at "ev"
        simp only [appB_le hsl]
        walk_at "ev"
        rw [if_neg (by intro q; exact c (Option.some.inj q)), List.map_append, hb]
        rfl
  obtain ⟨ρ', h1, o1, o2, rfl⟩ := loop
  rw [zip_fst] at h1
  unfold f_from_list b_from_list
  walk_at "ev"
  simp only [h1]
  walk_at "ev"

/-! to_list -/
/-- the values of a step up to an end -/
def fl (q : (Int × Int) × Int) : List Int := List.replicate (q.2 - q.1.1).toNat q.1.2
theorem fl_st : ∀ (k : Nat) (j p : Int) (l : List Int), 0 ≤ j → j ≤ k → (((j, p) :: DL.st k p l).zip ((DL.st k p l).map (·.1) ++ [((k + l.length : Nat) : Int)])).flatMap fl = List.replicate ((k : Int) - j).toNat p ++ l
  | k, j, p, [], _, _ => by
    show [((j, p), ((k + 0 : Nat) : Int))].flatMap fl = _
    simp [fl]
  | k, j, p, v :: r, h0, hj => by
    have hn : k + (v :: r).length = k + 1 + r.length := by rw [List.length_cons]; omega
    rw [hn]
    show (((j, p) :: (if v = p then DL.st (k + 1) p r else ((k : Int), v) :: DL.st (k + 1) v r)).zip ((if v = p then DL.st (k + 1) p r else ((k : Int), v) :: DL.st (k + 1) v r).map (·.1) ++ _)).flatMap fl = _
    by_cases c : v = p
    · subst c
      rw [if_pos rfl, fl_st (k + 1) j v r h0 (by omega), show (((k + 1 : Nat) : Int) - j).toNat = ((k : Int) - j).toNat + 1 by omega, List.replicate_succ', List.append_assoc]; rfl
    · rw [if_neg c, List.map_cons, List.cons_append, List.zip_cons_cons, List.flatMap_cons, fl_st (k + 1) k v r (by omega) (by omega)]
      show List.replicate ((k : Int) - j).toNat p ++ (List.replicate (((k + 1 : Nat) : Int) - (k : Int)).toNat v ++ r) = _
      rw [show (((k + 1 : Nat) : Int) - (k : Int)).toNat = 1 by omega]; rfl
def ends (vs : List Int) : List Int := (stp vs).tail.map (·.1) ++ [(vs.length : Int)]
theorem fl_stp {vs : List Int} (h : vs ≠ []) : ((stp vs).zip (ends vs)).flatMap fl = vs := by
  cases vs with
  | nil => exact absurd rfl h
  | cons v r =>
    have := fl_st 1 0 v r (by decide) (by decide)
    rw [Nat.add_comm] at this
    exact this
theorem oMul_one (x : PyData) (d : Int) (h : d ≤ 1000) (h0 : -1000 ≤ d) : oMul (.list [x]) (.int d) = some (.list (List.replicate d.toNat x)) := by
  show (if _ then _ else _) = _
  rw [if_pos ⟨by omega, by omega, by show 1 * d.toNat ≤ sizeLine; exact Nat.le_trans (show 1 * d.toNat ≤ 1000 by omega) (by decide)⟩]
  congr 2
  rw [List.flatten_replicate_singleton]
theorem map_zip_l {α β γ : Type} (f : α → γ) (l : List α) (m : List β) : (l.map f).zip m = (l.zip m).map fun p => (f p.1, p.2) := by
  have := List.zip_map_left (f := f) (l₁ := l) (l₂ := m)
  rw [this]
  refine List.map_congr_left fun p _ => ?_
  rfl
theorem stp_ends {vs : List Int} {q : (Int × Int) × Int} (h : q ∈ (stp vs).zip (ends vs)) : q.1 ∈ stp vs ∧ (q.2 = (vs.length : Int) ∨ ∃ s ∈ stp vs, q.2 = s.1) := by
  obtain ⟨h1, h2⟩ := List.of_mem_zip (a := q.1) (b := q.2) h
  refine ⟨h1, ?_⟩
  unfold ends at h2
  rcases List.mem_append.mp h2 with h2 | h2
  · obtain ⟨s, hs, e⟩ := List.mem_map.mp h2
    exact .inr ⟨s, List.mem_of_mem_tail hs, e.symm⟩
  · exact .inl (List.mem_singleton.mp h2)
theorem to_list_ok {vs : List Int} (h : vs ≠ []) (hl : vs.length ≤ 1000) : f_to_list [.dat (lineD vs)] = .ok (il vs) [.none] := by
  have hsl := stp_len vs
  have hadd : oAdd (.list ((stp vs).tail.map fun b => .int b.1)) (.list [.int (vs.length : Int)]) = some (il (ends vs)) := by
    rw [oAdd_l (by rw [List.length_map, List.length_tail]; show _ + 1 ≤ _; omega)]
    unfold ends il
    rw [List.map_append, List.map_map]; rfl
  unfold f_to_list b_to_list
  walk_at "ev"
  rw [lc_map stD (fun b => .int b.1) (stp vs).tail (fun b hb rest acc ha => ?_) (by rw [List.length_tail]; omega)]
  · walk_at "ev"
    simp only [hadd]
    walk_at "ev"
    refine for_run (fun r => SRes.end _ (SRes.seq r _) = _) (fun p : (Int × Int) × Int => .tuple [stD p.1, .int p.2]) (fun pre ρ => ∃ o1 o2 o3, ρ = [.dat (lineD vs), .own (il (pre.flatMap fl)), .dat (il (ends vs)), jk o1, jk o2, jk o3]) ⟨none, none, none, rfl⟩ (fun a b c e ρ ⟨o1, o2, o3, hρ⟩ => ?_) (fun ρ' ⟨o1, o2, o3, hρ⟩ => ?_)
    · subst hρ
      refine ⟨[.dat (lineD vs), .own (il ((a ++ [b]).flatMap fl)), .dat (il (ends vs)), .dat (.int b.1.1), .dat (.int b.1.2), .dat (.int b.2)], .inl ?_, some _, some _, some _, rfl⟩
      have hb : b ∈ (stp vs).zip (ends vs) := by rw [e]; simp
      obtain ⟨q1, q2⟩ := stp_ends hb
      obtain ⟨q3, q4, _⟩ := stp_low q1
      have q5 : 0 ≤ b.2 ∧ b.2 ≤ vs.length := by
        rcases q2 with q2 | ⟨s, hs, q2⟩
        · omega
        · obtain ⟨z1, z2, _⟩ := stp_low hs; omega
      have hlen : (a.flatMap fl).length + (b.2 - b.1.1).toNat ≤ vs.length := by
        have e2 := congrArg (fun l => (l.flatMap fl).length) e
        simp only [fl_stp h, List.flatMap_append, List.flatMap_cons, List.length_append] at e2
        have : (fl b).length = (b.2 - b.1.1).toNat := List.length_replicate
        omega
      walk_at "ev"
      simp only [oMul_rep (x := .int b.1.2) (d := b.2 - b.1.1) (by omega) (by omega)]
      walk_at "ev"
      rw [extB_le (by rw [List.length_map, List.length_replicate]; omega)]
      walk_at "ev"
      congr 4
      rw [List.flatMap_append]
      show PyData.list _ = .list (List.map PyData.int _)
      rw [List.map_append]
      congr 2
      show List.replicate _ (PyData.int b.1.2) = ([b].flatMap fl).map .int
      simp [fl]
    · subst hρ
      rw [fl_stp h]
      walk_at "ev"
  · rw [lcGo_cons]
    walk_at "ev"
    simp only [kLc3_le ha]
    walk_at "ev"

/-! checked -/
theorem checked_ok {vs : List Int} (h : Ln vs) : f_checked [.dat (lineD vs)] = .ok (lineD vs) [.none] := by
  have hl := h.le
  have hsl := stp_len vs
  unfold f_checked b_checked
  walk_at "ev"
  rw [lc_map stD (fun _ => .bool true) (stp vs) (fun b hb rest acc ha => ?_) (by omega)]
  · walk_at "ev"
    simp only [all_true]
    walk_at "ev"
  · obtain ⟨q1, q2, q3⟩ := stp_low hb
    rw [lcGo_cons]
    walk_at "ev"
    simp only [is_value_yes (h.all _ q3)]
    walk_at "ev"
    simp only [kLc3_le ha]
    walk_at "ev"
theorem checked_no {l : List Int} (hl : l.length ≤ 60) {v : Int} (hm : v ∈ l) (hv : ¬ (-999 ≤ v ∧ v ≤ 999)) : f_checked [.dat (lineD l)] = .exc 7 [.none] := by
  have hsl := stp_len l
  unfold f_checked b_checked
  walk_at "ev"
  rw [lc_map stD (fun q => .bool (decide (-999 ≤ q.2) && decide (q.2 ≤ 999))) (stp l) (fun b hb rest acc ha => ?_) (by omega)]
  · walk_at "ev"
    rw [all_map (fun q : Int × Int => decide (-999 ≤ q.2) && decide (q.2 ≤ 999)), show ((stp l).all fun q : Int × Int => decide (-999 ≤ q.2) && decide (q.2 ≤ 999)) = false by
      obtain ⟨q, h1, h2⟩ := stp_has l hm
      refine Bool.eq_false_iff.mpr fun h => hv ?_
      have := List.all_eq_true.mp h q h1
      rw [Bool.and_eq_true, decide_eq_true_eq, decide_eq_true_eq, h2] at this
      exact this]
    walk_at "ev"
  · rw [lcGo_cons]
    walk_at "ev"
    simp only [is_value_int]
    walk_at "ev"
    simp only [kLc3_le ha]
    walk_at "ev"

/-! Track_init -/
theorem st_same (v : Int) : ∀ (n k : Nat), DL.st k v (List.replicate n v) = []
  | 0, _ => rfl
  | n + 1, k => by
    rw [List.replicate_succ]
    unfold DL.st
    rw [if_pos rfl, st_same v n]
theorem line_flat {n : Nat} (h : 1 ≤ n) (v : Int) : lineD (List.replicate n v) = .tuple [.int (n : Int), .tuple [.tuple [.int 0, .int v]]] := by
  obtain ⟨m, rfl⟩ : ∃ m, n = m + 1 := ⟨n - 1, by omega⟩
  show PyData.tuple [.int ((List.replicate (m + 1) v).length : Int), .tuple ((stp (List.replicate (m + 1) v)).map stD)] = _
  rw [List.length_replicate, List.replicate_succ, show stp (v :: List.replicate m v) = (0, v) :: DL.st 1 v (List.replicate m v) from rfl, st_same]
  rfl
/-- a track: its line's values, those of the lines behind it -/
abbrev tr (vs : List Int) (ps : List (List Int)) : Sl := .pin (.trk (lineD vs) (ps.map lineD))
theorem init_ok {n : Nat} {v : Int} (h : 1 ≤ n ∧ n ≤ 60) (hv : -999 ≤ v ∧ v ≤ 999) : f_Track_init [.pin .raw, .dat (.int (n : Int)), .dat (.int v)] = .ok .none [tr (List.replicate n v) [], .none, .none] := by
  unfold f_Track_init b_Track_init
  walk_at "ev"
  simp only [is_whole_yes (z := (n : Int)) (lo := 1) (hi := 60) (by omega) (by omega)]
  walk_at "ev"
  simp only [need_value_yes hv]
  walk_at "ev"
  unfold tr
  rw [line_flat h.1]
  rfl

/-! Track_line -/
theorem tline_ok (vs : List Int) (ps : List (List Int)) : f_Track_line [tr vs ps] = .ok (lineD vs) [tr vs ps] := by
  unfold f_Track_line b_Track_line
  walk_at "ev"

/-! new_value -/
def wd : Nat → Str
  | 0 => "put"
  | 1 => "add"
  | 2 => "lift"
  | 3 => "press"
  | _ => "undo"
theorem oEq_s {a b : Str} (ha : PyData.strOk a = true) (hb : PyData.strOk b = true) : oEq (.str a) (.str b) = some (.bool (decide (a = b))) := by
  have h1 : SeqAt.shaped (.str a) = true := by simp [SeqAt.shaped, PyData.canLay0, PyData.depth, ha]
  have h2 : SeqAt.shaped (.str b) = true := by simp [SeqAt.shaped, PyData.canLay0, PyData.depth, hb]
  unfold oEq
  rw [if_pos ⟨h1, h2⟩]
  congr 2
theorem wd_ok : ∀ k, k < 5 → PyData.strOk (wd k) = true := by
  intro k hk
  rcases (show k = 0 ∨ k = 1 ∨ k = 2 ∨ k = 3 ∨ k = 4 by omega) with rfl | rfl | rfl | rfl | rfl <;> decide +kernel
theorem wd_inj {k l : Nat} (hk : k < 5) (hl : l < 5) (h : wd k = wd l) : k = l := by
  rcases (show k = 0 ∨ k = 1 ∨ k = 2 ∨ k = 3 ∨ k = 4 by omega) with rfl | rfl | rfl | rfl | rfl <;> rcases (show l = 0 ∨ l = 1 ∨ l = 2 ∨ l = 3 ∨ l = 4 by omega) with rfl | rfl | rfl | rfl | rfl <;> first | rfl | exact absurd h (by decide)
theorem wd_eq {k l : Nat} (hk : k < 5) (hl : l < 5) : oEq (.str (wd k)) (.str (wd l)) = some (.bool (decide (k = l))) := by
  rw [oEq_s (wd_ok k hk) (wd_ok l hl)]
  congr 2
  exact decide_eq_decide.mpr ⟨wd_inj hk hl, fun h => by rw [h]⟩
theorem wd_put {k : Nat} (hk : k < 5) : oEq (.str (wd k)) (.str "put") = some (.bool (decide (k = 0))) := wd_eq hk (l := 0) (by decide)
theorem wd_add {k : Nat} (hk : k < 5) : oEq (.str (wd k)) (.str "add") = some (.bool (decide (k = 1))) := wd_eq hk (l := 1) (by decide)
theorem wd_lift {k : Nat} (hk : k < 5) : oEq (.str (wd k)) (.str "lift") = some (.bool (decide (k = 2))) := wd_eq hk (l := 2) (by decide)
theorem wd_press {k : Nat} (hk : k < 5) : oEq (.str (wd k)) (.str "press") = some (.bool (decide (k = 3))) := wd_eq hk (l := 3) (by decide)
theorem wd_undo {k : Nat} (hk : k < 5) : oEq (.str (wd k)) (.str "undo") = some (.bool (decide (k = 4))) := wd_eq hk (l := 4) (by decide)
/-- what a word makes of a value -/
def newV (w : Nat) (o v : Int) : Int := if w = 0 then v else if w = 1 then o + v else if w = 2 then max o v else min o v
theorem new_value_ok {w : Nat} (hw : w < 4) (o v : Int) : f_new_value [.dat (.str (wd w)), .dat (.int o), .dat (.int v)] = .ok (.int (newV w o v)) [.none, .none, .none] := by
  unfold f_new_value b_new_value newV
  walk_at "ev"
  simp only [wd_put (show w < 5 by omega)]
  by_cases c0 : w = 0
  · simp only [decide_eq_true c0, if_pos c0]
    walk_at "ev"
  simp only [decide_eq_false c0, if_neg c0]
  walk_at "ev"
  simp only [wd_add (show w < 5 by omega)]
  by_cases c1 : w = 1
  · simp only [decide_eq_true c1, if_pos c1]
    walk_at "ev"
  simp only [decide_eq_false c1, if_neg c1]
  walk_at "ev"
  simp only [wd_lift (show w < 5 by omega)]
  by_cases c2 : w = 2
  · simp only [decide_eq_true c2, if_pos c2]
    walk_at "ev"
  simp only [decide_eq_false c2, if_neg c2]
  walk_at "ev"

/-! Track_change -/
/-- the values behind a deed -/
def chgL (w : Nat) (a b v : Int) (vs : List Int) : List Int := (rng 0 vs.length).map fun i => if a ≤ i ∧ i ≤ b then newV w (at' vs i) v else at' vs i
theorem chgL_len {w : Nat} {a b v : Int} {vs : List Int} : (chgL w a b v vs).length = vs.length := by unfold chgL; rw [List.length_map, rng_len]
theorem chgL_at {w : Nat} {a b v : Int} {vs : List Int} {i : Int} (h0 : 0 ≤ i) (h : i < vs.length) : at' (chgL w a b v vs) i = if a ≤ i ∧ i ≤ b then newV w (at' vs i) v else at' vs i := by
  unfold chgL
  rw [at_rng h h0, Int.zero_add]
/-- how many places are unlike -/
def unl (vs ws : List Int) : Nat := ((vs.zip ws).filter fun p => !decide (p.1 = p.2)).length
def chgP (w : Nat) (a b v : Int) (vs pre : List Int) : List Int := (rng 0 pre.length).map fun i => if a ≤ i ∧ i ≤ b then newV w (at' vs i) v else at' vs i
theorem at_zip {l a : List (Int × Nat)} {vs : List Int} {b : Int × Nat} {c : List (Int × Nat)} (e : vs.zipIdx 0 = a ++ b :: c) : b.2 = a.length ∧ b.1 = at' vs a.length ∧ a.length < vs.length := by
  have h1 := zip_at a vs 0 b c e
  have h2 := congrArg List.length e
  rw [List.length_zipIdx, List.length_append, List.length_cons] at h2
  refine ⟨by omega, ?_, by omega⟩
  have h3 := congrArg (fun l => l[a.length]?) e
  simp only [List.getElem?_append_right (Nat.le_refl _), Nat.sub_self, List.getElem?_cons_zero, List.getElem?_zipIdx] at h3
  unfold at'
  rw [Int.toNat_natCast, List.getD_eq_getElem?_getD]
  cases e2 : vs[a.length]? with
  | none => rw [e2] at h3; cases h3
  | some x =>
    rw [e2] at h3
    cases h3; rfl
section
variable {vs : List Int} {ps : List (List Int)} {w : Nat} {a b v : Int}
/-- behind the loop over the values: the list that it makes -/
theorem change_loop (hw : w < 4) (hl : vs.length ≤ 60) (X0 : Sl) : ∃ ρ', forGo (agTup 2 (agCons (agName 7) (agCons (agName 8) agNil))) (asSeq (asAsg (aVar 8) (agName 9)) (asSeq (asIf (aTest (aChain oLe oLe (aVar 2) (aVar 7) (aVar 3))) (asAsg (aCall f_new_value (aaCons (aVar 1) (aaCons (aVar 8) (aaCons (aVar 4) aaNil)))) (agName 9)) asNext) (asApp 6 (aVar 9))))
      ((vs.zipIdx 0).map fun p => .tuple [.int (p.2 : Int), .int p.1]) [X0, .dat (.str (wd w)), .dat (.int a), .dat (.int b), .dat (.int v), .dat (il vs), .own (.list []), .none, .none, .none, .none] = .nx ρ' ∧
      ∃ o7 o8 o9, ρ' = [X0, .dat (.str (wd w)), .dat (.int a), .dat (.int b), .dat (.int v), .dat (il vs), .own (il (chgL w a b v vs)), jk o7, jk o8, jk o9, .none] := by
  have := for_inv0 (gt := agTup 2 (agCons (agName 7) (agCons (agName 8) agNil))) (x := asSeq (asAsg (aVar 8) (agName 9)) (asSeq (asIf (aTest (aChain oLe oLe (aVar 2) (aVar 7) (aVar 3))) (asAsg (aCall f_new_value (aaCons (aVar 1) (aaCons (aVar 8) (aaCons (aVar 4) aaNil)))) (agName 9)) asNext) (asApp 6 (aVar 9))))
    (fun p : Int × Nat => .tuple [.int (p.2 : Int), .int p.1]) (fun pre ρ => ∃ o7 o8 o9, ρ = [X0, .dat (.str (wd w)), .dat (.int a), .dat (.int b), .dat (.int v), .dat (il vs), .own (il (chgP w a b v vs (pre.map (·.1)))), jk o7, jk o8, jk o9, .none]) (src := vs.zipIdx 0) (ρ := [X0, .dat (.str (wd w)), .dat (.int a), .dat (.int b), .dat (.int v), .dat (il vs), .own (.list []), .none, .none, .none, .none]) ⟨none, none, none, rfl⟩ (fun x y z e ρ ⟨o7, o8, o9, hρ⟩ => by
      subst hρ
      obtain ⟨e1, e2, e3⟩ := at_zip (l := []) e
      obtain ⟨y1, y2⟩ := y
      have e1 : y2 = x.length := e1
      have e4 : y1 = at' vs x.length := e2
      subst e1
      have hm : chgP w a b v vs ((x ++ [(y1, x.length)]).map (·.1)) = chgP w a b v vs (x.map (·.1)) ++ [if a ≤ (x.length : Int) ∧ (x.length : Int) ≤ b then newV w y1 v else y1] := by
        unfold chgP
        rw [List.length_map, List.length_append, List.length_singleton, rng_snoc, List.map_append, List.length_map, Int.zero_add, e4]; rfl
      have hlen : (chgP w a b v vs (x.map (·.1))).length = x.length := by unfold chgP; rw [List.length_map, rng_len, List.length_map]
      refine ⟨[X0, .dat (.str (wd w)), .dat (.int a), .dat (.int b), .dat (.int v), .dat (il vs), .own (il (chgP w a b v vs ((x ++ [(y1, x.length)]).map (·.1)))), .dat (.int (x.length : Int)), .dat (.int y1), .dat (.int (if a ≤ (x.length : Int) ∧ (x.length : Int) ≤ b then newV w y1 v else y1)), .none], .inl ?_, some _, some _, some _, rfl⟩
      rw [hm, il_app]
      have hle : ((chgP w a b v vs (x.map (·.1))).map PyData.int).length ≤ 10000 := by rw [List.length_map, hlen]; omega
      walk_at "ev"
      by_cases c1 : a ≤ (x.length : Int)
      · simp only [decide_eq_true c1]
        walk_at "ev"
        by_cases c2 : (x.length : Int) ≤ b
        · simp only [decide_eq_true c2]
          walk_at "ev"
          simp only [new_value_ok hw]
          walk_at "ev"
          rw [appB_le hle, if_pos ⟨c1, c2⟩]
          rfl
        · simp only [decide_eq_false c2]
          walk_at "ev"
          rw [appB_le hle, if_neg (by omega)]
          rfl
      · simp only [decide_eq_false c1]
        walk_at "ev"
        rw [appB_le hle, if_neg (by omega)]
        rfl)
  obtain ⟨ρ', h1, o7, o8, o9, h2⟩ := this
  refine ⟨ρ', h1, o7, o8, o9, ?_⟩
  rw [h2, zip_fst]
  rfl
theorem count_le {l : List (Int × Int)} {p : Int × Int → Bool} (h : l.length ≤ 60) : (l.filter p).length ≤ 10000 := Nat.le_trans (List.length_filter_le _ _) (by omega)
/-- a change that is taken -/
theorem change_ok (hw : w < 4) (h : Ln vs) (h0 : 0 ≤ a) (h1 : a ≤ b) (h2 : b < vs.length) (hv : -999 ≤ v ∧ v ≤ 999) (hn : Ln (chgL w a b v vs)) (hp : ps.length ≤ 5000) :
    f_Track_change [tr vs ps, .dat (.str (wd w)), .dat (.int a), .dat (.int b), .dat (.int v)] = .ok (.int (unl vs (chgL w a b v vs) : Nat)) [tr (chgL w a b v vs) (ps ++ [vs]), .none, .none, .none, .none] := by
  have hl := h.le
  unfold f_Track_change b_Track_change
  walk_at "ev"
  simp only [need_stretch_ok h0 h1 h2]
  walk_at "ev"
  simp only [need_value_yes hv]
  walk_at "ev"
  simp only [to_list_ok h.ne (by omega)]
  walk_at "ev"
  obtain ⟨ρ', e1, o7, o8, o9, e2⟩ := change_loop (vs := vs) (w := w) (a := a) (b := b) (v := v) hw hl (tr vs ps)
  unfold tr at e1 e2 ⊢
  rw [e1, e2]
  walk_at "ev"
  simp only [from_list_ok (chgL w a b v vs) (by rw [chgL_len]; omega)]
  walk_at "ev"
  simp only [checked_ok hn]
  walk_at "ev"
  rw [pushR_le (by rw [List.length_map]; omega)]
  walk_at "ev"
  rw [lc_fm (fun p : Int × Int => .tuple [.int p.1, .int p.2]) (fun _ => .int 1) (fun p => !decide (p.1 = p.2)) (vs.zip (chgL w a b v vs)) [] (fun p hp' rest acc ha => ?_) (by rw [List.length_zip]; show 0 + _ ≤ _; omega)]
  rotate_left
  · rw [lcGo_cons]
    walk_at "ev"
    by_cases c : p.1 = p.2
    · simp only [decide_eq_true c]
      walk_at "ev"
    · simp only [decide_eq_false c]
      walk_at "ev"
      simp only [kLc3_le ha]
      walk_at "ev"
  rw [List.nil_append]
  walk_at "ev"
  rw [List.map_append]
  rfl
/-- a value beyond the bounds -/
theorem change_value (h : Ln vs) (h0 : 0 ≤ a) (h1 : a ≤ b) (h2 : b < vs.length) {x : PyData} (hv : f_need_value [.dat x] = .exc 3 [.none]) {y : PyData} :
    f_Track_change [tr vs ps, .dat y, .dat (.int a), .dat (.int b), .dat x] = .exc 3 [tr vs ps, .none, .none, .none, .none] := by
  unfold f_Track_change b_Track_change
  walk_at "ev"
  simp only [need_stretch_ok h0 h1 h2]
  walk_at "ev"
  simp only [hv]
  walk_at "ev"
/-- values beyond the bounds behind it -/
theorem change_great (hw : w < 4) (h : Ln vs) (h0 : 0 ≤ a) (h1 : a ≤ b) (h2 : b < vs.length) (hv : -999 ≤ v ∧ v ≤ 999) {x : Int} (hx : x ∈ chgL w a b v vs) (hb : ¬ (-999 ≤ x ∧ x ≤ 999)) :
    f_Track_change [tr vs ps, .dat (.str (wd w)), .dat (.int a), .dat (.int b), .dat (.int v)] = .exc 7 [tr vs ps, .none, .none, .none, .none] := by
  have hl := h.le
  unfold f_Track_change b_Track_change
  walk_at "ev"
  simp only [need_stretch_ok h0 h1 h2]
  walk_at "ev"
  simp only [need_value_yes hv]
  walk_at "ev"
  simp only [to_list_ok h.ne (by omega)]
  walk_at "ev"
  obtain ⟨ρ', e1, o7, o8, o9, e2⟩ := change_loop (vs := vs) (w := w) (a := a) (b := b) (v := v) hw hl (tr vs ps)
  unfold tr at e1 e2 ⊢
  rw [e1, e2]
  walk_at "ev"
  simp only [from_list_ok (chgL w a b v vs) (by rw [chgL_len]; omega)]
  walk_at "ev"
  simp only [checked_no (by rw [chgL_len]; exact hl) hx hb]
  walk_at "ev"
/-- no stretch of it -/
theorem change_place {x y z t : PyData} (hs : f_need_stretch [.dat (lineD vs), .dat x, .dat y] = .exc 2 [.none, .none, .none]) :
    f_Track_change [tr vs ps, .dat t, .dat x, .dat y, .dat z] = .exc 2 [tr vs ps, .none, .none, .none, .none] := by
  unfold f_Track_change b_Track_change
  walk_at "ev"
  simp only [hs]
  walk_at "ev"
end

/-! Track_put -/
theorem tput_ok {h : PyData} {p : List PyData} {x y z r : PyData} {m : Mu} (e : f_Track_change [.pin (.trk h p), .dat (.str "put"), .dat x, .dat y, .dat z] = .ok r [.pin m, .none, .none, .none, .none]) : f_Track_put [.pin (.trk h p), .dat x, .dat y, .dat z] = .ok r [.pin m, .none, .none, .none] := by
  unfold f_Track_put b_Track_put
  walk_at "ev"
  simp only [e]
  walk_at "ev"
theorem tput_exc {h : PyData} {p : List PyData} {x y z : PyData} {m : Mu} {k : Nat} (e : f_Track_change [.pin (.trk h p), .dat (.str "put"), .dat x, .dat y, .dat z] = .exc k [.pin m, .none, .none, .none, .none]) : f_Track_put [.pin (.trk h p), .dat x, .dat y, .dat z] = .exc k [.pin m, .none, .none, .none] := by
  unfold f_Track_put b_Track_put
  walk_at "ev"
  simp only [e]
  walk_at "ev"

/-! Track_add -/
theorem tadd_ok {h : PyData} {p : List PyData} {x y z r : PyData} {m : Mu} (e : f_Track_change [.pin (.trk h p), .dat (.str "add"), .dat x, .dat y, .dat z] = .ok r [.pin m, .none, .none, .none, .none]) : f_Track_add [.pin (.trk h p), .dat x, .dat y, .dat z] = .ok r [.pin m, .none, .none, .none] := by
  unfold f_Track_add b_Track_add
  walk_at "ev"
  simp only [e]
  walk_at "ev"
theorem tadd_exc {h : PyData} {p : List PyData} {x y z : PyData} {m : Mu} {k : Nat} (e : f_Track_change [.pin (.trk h p), .dat (.str "add"), .dat x, .dat y, .dat z] = .exc k [.pin m, .none, .none, .none, .none]) : f_Track_add [.pin (.trk h p), .dat x, .dat y, .dat z] = .exc k [.pin m, .none, .none, .none] := by
  unfold f_Track_add b_Track_add
  walk_at "ev"
  simp only [e]
  walk_at "ev"

/-! Track_lift -/
theorem tlift_ok {h : PyData} {p : List PyData} {x y z r : PyData} {m : Mu} (e : f_Track_change [.pin (.trk h p), .dat (.str "lift"), .dat x, .dat y, .dat z] = .ok r [.pin m, .none, .none, .none, .none]) : f_Track_lift [.pin (.trk h p), .dat x, .dat y, .dat z] = .ok r [.pin m, .none, .none, .none] := by
  unfold f_Track_lift b_Track_lift
  walk_at "ev"
  simp only [e]
  walk_at "ev"
theorem tlift_exc {h : PyData} {p : List PyData} {x y z : PyData} {m : Mu} {k : Nat} (e : f_Track_change [.pin (.trk h p), .dat (.str "lift"), .dat x, .dat y, .dat z] = .exc k [.pin m, .none, .none, .none, .none]) : f_Track_lift [.pin (.trk h p), .dat x, .dat y, .dat z] = .exc k [.pin m, .none, .none, .none] := by
  unfold f_Track_lift b_Track_lift
  walk_at "ev"
  simp only [e]
  walk_at "ev"

/-! Track_press -/
theorem tpress_ok {h : PyData} {p : List PyData} {x y z r : PyData} {m : Mu} (e : f_Track_change [.pin (.trk h p), .dat (.str "press"), .dat x, .dat y, .dat z] = .ok r [.pin m, .none, .none, .none, .none]) : f_Track_press [.pin (.trk h p), .dat x, .dat y, .dat z] = .ok r [.pin m, .none, .none, .none] := by
  unfold f_Track_press b_Track_press
  walk_at "ev"
  simp only [e]
  walk_at "ev"
theorem tpress_exc {h : PyData} {p : List PyData} {x y z : PyData} {m : Mu} {k : Nat} (e : f_Track_change [.pin (.trk h p), .dat (.str "press"), .dat x, .dat y, .dat z] = .exc k [.pin m, .none, .none, .none, .none]) : f_Track_press [.pin (.trk h p), .dat x, .dat y, .dat z] = .exc k [.pin m, .none, .none, .none] := by
  unfold f_Track_press b_Track_press
  walk_at "ev"
  simp only [e]
  walk_at "ev"

/-! Track_undo -/
theorem undo_no (vs : List Int) : f_Track_undo [tr vs []] = .exc 8 [tr vs []] := by
  unfold f_Track_undo b_Track_undo
  walk_at "ev"
  simp only [show oEq (.list []) (.list []) = some (.bool true) from (oEq_dat ([] : List Int) [])]
  walk_at "ev"
theorem lines_data (ps : List (List Int)) : (.list (ps.map lineD) : PyData) = Dat.d (ps.map lineT) := by
  show PyData.list _ = .list _
  rw [List.map_map]; rfl
theorem undo_ok (vs ws : List Int) (ps : List (List Int)) : f_Track_undo [tr vs (ps ++ [ws])] = .ok .none [tr ws ps] := by
  have hne : oEq (.list ((ps ++ [ws]).map lineD)) (.list []) = some (.bool false) := by
    rw [lines_data]
    have := oEq_dat ((ps ++ [ws]).map lineT) []
    rw [decide_eq_false (by simp)] at this
    exact this
  unfold f_Track_undo b_Track_undo
  walk_at "ev"
  simp only [hne]
  walk_at "ev"
  unfold tr
  rw [List.map_append, List.map_cons, List.map_nil, popR_snoc]
  walk_at "ev"

/-! _law_cell_at -/
theorem scr_ix {ns : List Int} {i : Int} (h0 : 0 ≤ i) (h : i < ns.length) : ∃ z, oScrIx ns (.int i) = some (.int z) := by
  obtain ⟨n, rfl⟩ := Int.eq_ofNat_of_zero_le h0
  have hn : n < ns.length := by omega
  exact ⟨ns[n], by show (atI ns _).map _ = _; rw [atI_nat (List.getElem?_eq_getElem hn)]; rfl⟩
theorem scr_eq (ns : List Int) : oScrEq ns (.list []) = some (.bool (decide (ns = []))) := oEq_il ns []
theorem cell_ok (ns : List Int) (n : Nat) : ∃ z, f__law_cell_at [.pin (.scr ns), .dat (.int (n : Int))] = .ok (.int z) [.pin (.scr ns), .none] := by
  unfold f__law_cell_at b__law_cell_at
  by_cases c : (n : Int) < ns.length
  · obtain ⟨z, hz⟩ := scr_ix (by omega) c
    refine ⟨z, ?_⟩
    walk_at "evh"
  · by_cases e : ns = []
    · refine ⟨0, ?_⟩
      have h := scr_eq ns
      rw [decide_eq_true e] at h
      have c := decide_eq_false c
      clear e
      walk_at "evh"
    · have h := scr_eq ns
      have h1 : (0 : Int) < ns.length := by
        cases ns with
        | nil => exact absurd rfl e
        | cons a r => rw [List.length_cons]; omega
      obtain ⟨z, hz⟩ := scr_ix (ns := ns) (i := (n : Int).fmod (ns.length : Int)) (Int.fmod_nonneg_of_pos _ h1) (Int.fmod_lt_of_pos _ h1)
      refine ⟨z * 31 + n, ?_⟩
      walk_at "evh"
      simp only [oMul_intR (i := z) (j := 31) (by decide)]
      walk_at "evh"

/-! _law_mixed -/
theorem mixed_ok (ns : List Int) (n : Nat) {m : Int} (hn : n ≤ 1000000) (h : 0 < m) : ∃ r, (0 ≤ r ∧ r < m) ∧ f__law_mixed [.pin (.scr ns), .dat (.int (n : Int)), .dat (.int m)] = .ok (.int r) [.pin (.scr ns), .none, .none] := by
  obtain ⟨z, hz⟩ := cell_ok ns n
  have hb := mod_in (i := (z + 7919 * (n : Int) + 1) * 48271) (j := 2147483647) (by decide)
  refine ⟨(Int.fmod (Int.fmod (Int.fmod ((z + 7919 * (n : Int) + 1) * 48271) 2147483647 * Int.fmod ((z + 7919 * (n : Int) + 1) * 48271) 2147483647 + 7 * Int.fmod ((z + 7919 * (n : Int) + 1) * 48271) 2147483647 + (n : Int)) 2147483629) m), mod_in h, ?_⟩
  · unfold f__law_mixed b__law_mixed
    walk_at "ev"
    simp only [hz]
    walk_at "ev"
    simp only [oMul_int (i := 7919) (j := (n : Int)) (by decide)]
    walk_at "ev"
    simp only [oMul_intR (i := z + 7919 * (n : Int) + 1) (j := 48271) (by decide)]
    walk_at "ev"
    simp only [oMod_int (i := (z + 7919 * (n : Int) + 1) * 48271) (j := 2147483647) (by decide)]
    walk_at "ev"
    generalize Int.fmod ((z + 7919 * (n : Int) + 1) * 48271) 2147483647 = d at hb
    simp only [oMul_int (i := d) (j := d) (by omega)]
    walk_at "ev"
    simp only [oMul_int (i := 7) (j := d) (by decide)]
    walk_at "ev"
    simp only [oMod_int (j := 2147483629) (by decide)]
    walk_at "ev"
    simp only [oMod_int h]
    walk_at "ev"

/-! _law_draw -/
theorem draw_ok (ns : List Int) (n : Nat) {m : Int} (hn : n < 1000000) (h : 0 < m) : ∃ r, (0 ≤ r ∧ r < m) ∧ f__law_draw [.pin (.scr ns), .pin (.town n), .dat (.int m)] = .ok (.int r) [.pin (.scr ns), .pin (.town (n + 1)), .none] := by
  obtain ⟨r, hr, e⟩ := mixed_ok ns (n + 1) (m := m) hn h
  refine ⟨r, hr, ?_⟩
  unfold f__law_draw b__law_draw
  walk_at "ev"
  simp only [sAppT_le (Nat.le_of_lt hn)]
  walk_at "ev"
  simp only [e]
  walk_at "ev"

/-! _law_pick -/
theorem pick_ok (ns : List Int) (n : Nat) {ds : List PyData} (hn : n < 1000000) (h : ds ≠ []) : ∃ d, d ∈ ds ∧ f__law_pick [.pin (.scr ns), .pin (.town n), .dat (.list ds)] = .ok d [.pin (.scr ns), .pin (.town (n + 1)), .none] := by
  have hp : 0 < ds.length := List.length_pos_iff.mpr h
  obtain ⟨r, hr, e⟩ := draw_ok ns n (m := (ds.length : Int)) hn (by omega)
  obtain ⟨k, rfl⟩ := Int.eq_ofNat_of_zero_le hr.1
  have hk : k < ds.length := by omega
  refine ⟨ds[k], List.getElem_mem hk, ?_⟩
  unfold f__law_pick b__law_pick
  walk_at "ev"
  simp only [e]
  walk_at "ev"
  simp only [oIdx_l hk]
  walk_at "ev"

/-! _law_line -/
theorem law_of_ok (vs : List Int) (hl : vs.length ≤ 1000) : f__law_line [.dat (il vs)] = .ok (lineD vs) [.none] := by
  unfold f__law_line b__law_line
  walk_at "ev"
  refine for_run (fun r => SRes.end _ (SRes.seq r _) = _) (fun p : Int × Nat => .tuple [.int (p.2 : Int), .int p.1]) (fun pre ρ => ∃ o1 o2, ρ = [.dat (il vs), .own (.list ((stp (pre.map (·.1))).map stD)), jk o1, jk o2]) ⟨none, none, rfl⟩ (fun a b c e ρ ⟨o1, o2, hρ⟩ => ?_) (fun ρ' ⟨o1, o2, hρ⟩ => ?_)
  · subst hρ
    have hb : b.2 = a.length := by have := zip_at a vs 0 b c e; omega
    have hla : a.length ≤ 1000 := by
      have := congrArg List.length e
      rw [List.length_zipIdx, List.length_append] at this
      omega
    have hsl : ((stp (a.map (·.1))).map stD).length ≤ 10000 := by
      rw [List.length_map]
      have := stp_len (a.map (·.1))
      rw [List.length_map] at this
      omega
    have hm : (a ++ [b]).map (·.1) = a.map (·.1) ++ [b.1] := by rw [List.map_append]; rfl
    have hvs : vs = a.map (·.1) ++ b.1 :: c.map (·.1) := by
      have := congrArg (List.map (·.1)) e
      rw [zip_fst, List.map_append, List.map_cons] at this; exact this
    refine ⟨[.dat (il vs), .own (.list ((stp ((a ++ [b]).map (·.1))).map stD)), .dat (.int (b.2 : Int)), .dat (.int b.1)], .inl ?_, some _, some _, rfl⟩
    rw [hm, stp_snoc]
    walk_at "ev"
    rcases List.eq_nil_or_concat a with h0 | ⟨i, x, h0⟩
    · subst h0
      simp only [decide_eq_true (show (b.2 : Int) = 0 by rw [hb]; rfl)]
      walk_at "ev"
      rw [hb]; rfl
    · rw [List.concat_eq_append] at h0
      have hbl : (b.2 : Int) = i.length + 1 := by rw [hb, h0, List.length_append, List.length_singleton]; omega
      have hx : at' vs ((b.2 : Int) - 1) = x.1 := by
        rw [hvs, h0, List.map_append, List.append_assoc, hbl, at_append_right (by rw [List.length_map]; omega), List.length_map, show (i.length : Int) + 1 - 1 - i.length = 0 by omega]; rfl
      have hlast : (a.map (·.1)).getLast? = some x.1 := by
        rw [h0, List.map_append, List.map_cons, List.map_nil, List.getLast?_concat]
      have hlen : i.length + 1 < vs.length := by
        have := congrArg List.length hvs
        rw [h0] at this
        simp at this
        omega
      simp only [decide_eq_false (show ¬ (b.2 : Int) = 0 by omega)]
      walk_at "ev"
      simp only [oIdx_at (l := vs) (i := (b.2 : Int) - 1) (by omega) (by omega), hx]
      walk_at "ev"
      by_cases c : x.1 = b.1
      · simp only [decide_eq_true c]
        walk_at "ev"
        rw [hlast, if_pos (by rw [c]), List.append_nil]
      · simp only [decide_eq_false c]
        walk_at "ev"
        simp only [appB_le hsl]
        walk_at "ev"
        rw [hlast, if_neg (by intro q; exact c (Option.some.inj q)), List.map_append, hb]
        rfl
  · subst hρ
    rw [zip_fst]
    walk_at "ev"

/-! _law_deed -/
inductive Dd where
  | undo
  | dd (w : Nat) (a b v : Int)
def ddD : Dd → PyData
  | .undo => .tuple [.str "undo"]
  | .dd w a b v => .tuple [.str (wd w), .int a, .int b, .int v]
def Fit (n : Int) : Dd → Prop
  | .undo => True
  | .dd w a b v => w < 4 ∧ 0 ≤ a ∧ a ≤ b ∧ b < n ∧ -4 ≤ v ∧ v ≤ 1994
theorem deed_ok (ns : List Int) (n : Nat) {long : Int} (hn : n ≤ 900000) (h : 1 ≤ long) : ∃ d n', n' ≤ n + 5 ∧ Fit long d ∧ f__law_deed [.pin (.scr ns), .pin (.town n), .dat (.int long)] = .ok (ddD d) [.pin (.scr ns), .pin (.town n'), .none] := by
  obtain ⟨d, hd, e1⟩ := pick_ok ns n (ds := [.str "put", .str "add", .str "lift", .str "press", .str "undo"]) (by omega) (by simp)
  obtain ⟨k, hk, rfl⟩ : ∃ k, k < 5 ∧ d = .str (wd k) := by
    simp only [List.mem_cons, List.not_mem_nil, or_false] at hd
    rcases hd with rfl | rfl | rfl | rfl | rfl
    · exact ⟨0, by decide, rfl⟩
    · exact ⟨1, by decide, rfl⟩
    · exact ⟨2, by decide, rfl⟩
    · exact ⟨3, by decide, rfl⟩
    · exact ⟨4, by decide, rfl⟩
  by_cases c : k = 4
  · refine ⟨.undo, n + 1, by omega, trivial, ?_⟩
    unfold f__law_deed b__law_deed
    walk_at "ev"
    simp only [e1]
    walk_at "ev"
    simp only [wd_undo hk, decide_eq_true c]
    walk_at "ev"
    rfl
  · obtain ⟨a, ha, e2⟩ := draw_ok ns (n + 1) (m := long) (by omega) (by omega)
    obtain ⟨b, hb, e3⟩ := draw_ok ns (n + 1 + 1) (m := long - a) (by omega) (by omega)
    obtain ⟨m, hm, e4⟩ := pick_ok ns (n + 1 + 1 + 1) (ds := [.int 9, .int 9, .int 1999]) (by omega) (by simp)
    obtain ⟨z, hz, rfl⟩ : ∃ z : Int, (9 ≤ z ∧ z ≤ 1999) ∧ m = .int z := by
      simp only [List.mem_cons, List.not_mem_nil, or_false] at hm
      rcases hm with rfl | rfl | rfl <;> exact ⟨_, by decide, rfl⟩
    obtain ⟨v, hv, e5⟩ := draw_ok ns (n + 1 + 1 + 1 + 1) (m := z) (by omega) (by omega)
    refine ⟨.dd k a (a + b) (v - 4), n + 1 + 1 + 1 + 1 + 1, by omega, ⟨by omega, by omega, by omega, by omega, by omega, by omega⟩, ?_⟩
    unfold f__law_deed b__law_deed
    walk_at "ev"
    simp only [e1]
    walk_at "ev"
    simp only [wd_undo hk, decide_eq_false c]
    walk_at "ev"
    simp only [e2]
    walk_at "ev"
    simp only [e3]
    walk_at "ev"
    simp only [e4]
    walk_at "ev"
    simp only [e5]
    walk_at "ev"
    rfl

/-! _law_which -/
theorem which_ok {k : Nat} (h : k < 10) : f__law_which [.pin (.exn k)] = .ok (.tuple [.str "refused", .int k]) [.pin (.exn k)] := by
  match k, h with
  | 0, _ => rfl
  | 1, _ => rfl
  | 2, _ => rfl
  | 3, _ => rfl
  | 4, _ => rfl
  | 5, _ => rfl
  | 6, _ => rfl
  | 7, _ => rfl
  | 8, _ => rfl
  | 9, _ => rfl
/-- what a law tells of the refusal k -/
abbrev refD (k : Int) : PyData := .tuple [.str "refused", .int k]
theorem tryW {i e : Nat} {ρ : List Sl} (h : e < 10) (hp : noPin (sl ρ i) = true) (hl : i < ρ.length) : tryB 10 i f__law_which (.exc e ρ) = .rt (refD e) (ρ.set i .none) :=
  try_exc h hp hl (which_ok h)
structure Rf where
  k : Int
  deriving DecidableEq
theorem ref_ok : PyData.strOk (Str.ofString "refused") = true := by decide +kernel
instance : Dat Rf where
  d r := refD r.k
  ok r := by simp only [refD, PyData.canLay0, PyData.canLayAll0, ref_ok]; rfl
  eqv r q := by
    cases r; cases q
    simp only [refD, PyData.eqv, PyData.eqvAll]
    rw [Bool.eq_iff_iff]
    simp
  dep := 1
  dep_le r := by simp [refD, PyData.depth, PyData.depthAll]
theorem oEq_ref (a b : Int) : oEq (refD a) (refD b) = some (.bool (decide (a = b))) := by
  have := oEq_dat (Rf.mk a) (Rf.mk b)
  exact this.trans (by congr 2; simp)
theorem oNe_ref (a b : Int) : oNe (refD a) (refD b) = some (.bool (!decide (a = b))) := by
  have := oNe_dat (Rf.mk a) (Rf.mk b)
  exact this.trans (by congr 2; simp)
theorem oNe_refs (a b : List Int) : oNe (.list (a.map refD)) (.list (b.map refD)) = some (.bool (!decide (a = b))) := by
  have := oNe_dat (a.map Rf.mk) (b.map Rf.mk)
  have e : ∀ l : List Int, Dat.d (l.map Rf.mk) = PyData.list (l.map refD) := fun l => by
    show PyData.list _ = _
    rw [List.map_map]; rfl
  rw [e, e] at this
  rw [this]
  have : (a.map Rf.mk = b.map Rf.mk) ↔ a = b := List.map_inj_right (fun x y h => by injection h)
  simp only [this]
theorem oNe_rep (e : Int) (n : Nat) : oNe (.list (List.replicate n (refD e))) (.list (List.replicate n (refD e))) = some (.bool false) := by
  have := oNe_refs (List.replicate n e) (List.replicate n e)
  rw [List.map_replicate, decide_eq_true rfl] at this; exact this
theorem oEq_rep (e : Int) (n : Nat) : oEq (.list (List.replicate n (refD e))) (.list (List.replicate n (refD e))) = some (.bool true) := by
  have := oEq_dat ((List.replicate n e).map Rf.mk) ((List.replicate n e).map Rf.mk)
  have h : Dat.d ((List.replicate n e).map Rf.mk) = PyData.list (List.replicate n (refD e)) := by
    show PyData.list _ = _
    rw [List.map_map, List.map_replicate]; rfl
  rw [h, decide_eq_true rfl] at this
  exact this

/-! _law_do -/
section
variable {h : PyData} {p : List PyData} {x y z r : PyData} {m : Mu} {w : Nat}
theorem do_dd (hw : w < 4) (e : f_Track_change [.pin (.trk h p), .dat (.str (wd w)), .dat x, .dat y, .dat z] = .ok r [.pin m, .none, .none, .none, .none]) : f__law_do [.pin (.trk h p), .dat (.tuple [.str (wd w), x, y, z])] = .ok r [.pin m, .none] := by
  unfold f__law_do b__law_do
  walk_at "ev"
  simp only [wd_put (show w < 5 by omega)]
  by_cases c0 : w = 0
  · subst c0
    simp only [decide_true]
    walk_at "ev"
    simp only [tput_ok e]
    walk_at "ev"
  simp only [decide_eq_false c0]
  walk_at "ev"
  simp only [wd_add (show w < 5 by omega)]
  by_cases c1 : w = 1
  · subst c1
    simp only [decide_true]
    walk_at "ev"
    simp only [tadd_ok e]
    walk_at "ev"
  simp only [decide_eq_false c1]
  walk_at "ev"
  simp only [wd_lift (show w < 5 by omega)]
  by_cases c2 : w = 2
  · subst c2
    simp only [decide_true]
    walk_at "ev"
    simp only [tlift_ok e]
    walk_at "ev"
  simp only [decide_eq_false c2]
  walk_at "ev"
  simp only [wd_press (show w < 5 by omega)]
  have c3 : w = 3 := by omega
  subst c3
  simp only [decide_true]
  walk_at "ev"
  simp only [tpress_ok e]
  walk_at "ev"
theorem do_exc {k : Nat} (hk : k < 10) (hw : w < 4) (e : f_Track_change [.pin (.trk h p), .dat (.str (wd w)), .dat x, .dat y, .dat z] = .exc k [.pin m, .none, .none, .none, .none]) : f__law_do [.pin (.trk h p), .dat (.tuple [.str (wd w), x, y, z])] = .ok (refD k) [.pin m, .none] := by
  unfold f__law_do b__law_do
  walk_at "ev"
  simp only [wd_put (show w < 5 by omega)]
  by_cases c0 : w = 0
  · subst c0
    simp only [decide_true]
    walk_at "ev"
    simp only [tput_exc e]
    walk_at "ev"
    rw [tryW hk rfl (by simp)]
    rfl
  simp only [decide_eq_false c0]
  walk_at "ev"
  simp only [wd_add (show w < 5 by omega)]
  by_cases c1 : w = 1
  · subst c1
    simp only [decide_true]
    walk_at "ev"
    simp only [tadd_exc e]
    walk_at "ev"
    rw [tryW hk rfl (by simp)]
    rfl
  simp only [decide_eq_false c1]
  walk_at "ev"
  simp only [wd_lift (show w < 5 by omega)]
  by_cases c2 : w = 2
  · subst c2
    simp only [decide_true]
    walk_at "ev"
    simp only [tlift_exc e]
    walk_at "ev"
    rw [tryW hk rfl (by simp)]
    rfl
  simp only [decide_eq_false c2]
  walk_at "ev"
  simp only [wd_press (show w < 5 by omega)]
  have c3 : w = 3 := by omega
  subst c3
  simp only [decide_true]
  walk_at "ev"
  simp only [tpress_exc e]
  walk_at "ev"
  rw [tryW hk rfl (by simp)]
  rfl
end
theorem do_undo (vs ws : List Int) (ps : List (List Int)) : f__law_do [tr vs (ps ++ [ws]), .dat (ddD .undo)] = .ok .none [tr ws ps, .none] := by
  have hu := undo_ok vs ws ps
  unfold f__law_do b__law_do ddD
  unfold tr at hu ⊢
  walk_at "ev"
  simp only [show oEq (.str "undo") (.str "put") = some (.bool false) from wd_put (k := 4) (by decide)]
  walk_at "ev"
  simp only [show oEq (.str "undo") (.str "add") = some (.bool false) from wd_add (k := 4) (by decide)]
  walk_at "ev"
  simp only [show oEq (.str "undo") (.str "lift") = some (.bool false) from wd_lift (k := 4) (by decide)]
  walk_at "ev"
  simp only [show oEq (.str "undo") (.str "press") = some (.bool false) from wd_press (k := 4) (by decide)]
  walk_at "ev"
  simp only [hu]
  walk_at "ev"
theorem do_undo0 (vs : List Int) : f__law_do [tr vs [], .dat (ddD .undo)] = .ok (refD 8) [tr vs [], .none] := by
  have hu : f_Track_undo [.pin (.trk (lineD vs) [])] = .exc 8 [.pin (.trk (lineD vs) [])] := undo_no vs
  unfold f__law_do b__law_do ddD
  unfold tr
  walk_at "ev"
  simp only [show oEq (.str "undo") (.str "put") = some (.bool false) from wd_put (k := 4) (by decide)]
  walk_at "ev"
  simp only [show oEq (.str "undo") (.str "add") = some (.bool false) from wd_add (k := 4) (by decide)]
  walk_at "ev"
  simp only [show oEq (.str "undo") (.str "lift") = some (.bool false) from wd_lift (k := 4) (by decide)]
  walk_at "ev"
  simp only [show oEq (.str "undo") (.str "press") = some (.bool false) from wd_press (k := 4) (by decide)]
  walk_at "ev"
  simp only [hu]
  walk_at "ev"
  rw [tryW (by decide) rfl (by simp)]
  rfl
/-- what a track is behind a deed, and what the deed tells -/
structure Tk (n : Nat) (vs : List Int) (ps : List (List Int)) : Prop where
  ln : Ln vs
  len : vs.length = n
  past : ∀ q ∈ ps, Ln q ∧ q.length = n
def okL (l : List Int) : Bool := l.all fun x => decide (-999 ≤ x) && decide (x ≤ 999)
def lastL (ps : List (List Int)) : List Int := ps.getLast?.getD []
def tells (vs : List Int) (ps : List (List Int)) : Dd → PyData
  | .undo => if ps = [] then refD 8 else .none
  | .dd w a b v => if v > 999 then refD 3 else if okL (chgL w a b v vs) = true then .int (unl vs (chgL w a b v vs) : Nat) else refD 7
def behV (vs : List Int) (ps : List (List Int)) : Dd → List Int
  | .undo => if ps = [] then vs else lastL ps
  | .dd w a b v => if v > 999 then vs else if okL (chgL w a b v vs) = true then chgL w a b v vs else vs
def behP (vs : List Int) (ps : List (List Int)) : Dd → List (List Int)
  | .undo => ps.dropLast
  | .dd w a b v => if v > 999 then ps else if okL (chgL w a b v vs) = true then ps ++ [vs] else ps
theorem Tk.beh {n : Nat} {vs : List Int} {ps : List (List Int)} {d : Dd} (t : Tk n vs ps) : Tk n (behV vs ps d) (behP vs ps d) ∧ (behP vs ps d).length ≤ ps.length + 1 := by
  cases d with
  | undo =>
    rcases List.eq_nil_or_concat ps with e | ⟨qs, q, e⟩
    · subst e
      exact ⟨t, by show 0 ≤ _; omega⟩
    · rw [List.concat_eq_append] at e
      subst e
      have e1 : behV vs (qs ++ [q]) .undo = q := by
        show (if qs ++ [q] = [] then vs else lastL (qs ++ [q])) = q
        rw [if_neg (by simp)]
        unfold lastL
        rw [List.getLast?_concat]; rfl
      have e2 : behP vs (qs ++ [q]) .undo = qs := List.dropLast_concat
      rw [e1, e2]
      obtain ⟨q1, q2⟩ := t.past q (by simp)
      exact ⟨⟨q1, q2, fun x hx => t.past x (List.mem_append_left _ hx)⟩, by rw [List.length_append]; omega⟩
  | dd w a b v =>
    simp only [behV, behP]
    by_cases c1 : v > 999
    · rw [if_pos c1, if_pos c1]; exact ⟨t, by omega⟩
    rw [if_neg c1, if_neg c1]
    by_cases c2 : okL (chgL w a b v vs) = true
    · rw [if_pos c2, if_pos c2]
      refine ⟨⟨⟨by rw [chgL_len]; exact t.ln.pos, by rw [chgL_len]; exact t.ln.le, fun x hx => ?_⟩, by rw [chgL_len]; exact t.len, fun q hq => ?_⟩, by rw [List.length_append, List.length_singleton]; omega⟩
      · have := List.all_eq_true.mp c2 x hx
        rw [Bool.and_eq_true, decide_eq_true_eq, decide_eq_true_eq] at this
        exact this
      · rcases List.mem_append.mp hq with hq | hq
        · exact t.past q hq
        · rw [List.mem_singleton.mp hq]; exact ⟨t.ln, t.len⟩
    · rw [if_neg c2, if_neg c2]; exact ⟨t, by omega⟩
theorem do_ok {n : Nat} {vs : List Int} {ps : List (List Int)} {d : Dd} (t : Tk n vs ps) (hp : ps.length ≤ 5000) (hf : Fit n d) : f__law_do [tr vs ps, .dat (ddD d)] = .ok (tells vs ps d) [tr (behV vs ps d) (behP vs ps d), .none] := by
  cases d with
  | undo =>
    rcases List.eq_nil_or_concat ps with e | ⟨qs, q, e⟩
    · subst e
      exact do_undo0 vs
    · rw [List.concat_eq_append] at e
      subst e
      rw [do_undo vs q qs]
      unfold tells behV behP
      rw [if_neg (by simp), if_neg (by simp), List.dropLast_concat]
      unfold lastL
      rw [List.getLast?_concat]; rfl
  | dd w a b v =>
    obtain ⟨f1, f2, f3, f4, f5, f6⟩ := hf
    have hl := t.len
    simp only [tells, behV, behP, ddD]
    by_cases c1 : v > 999
    · rw [if_pos c1, if_pos c1, if_pos c1]
      have hv : f_need_value [.dat (.int v)] = .exc 3 [.none] := by
        unfold f_need_value b_need_value
        walk_at "ev"
        simp only [is_value_int, decide_eq_false (show ¬ v ≤ 999 by omega)]
        walk_at "ev"
      exact do_exc (by decide) f1 (change_value t.ln f2 f3 (by omega) hv)
    rw [if_neg c1, if_neg c1, if_neg c1]
    by_cases c2 : okL (chgL w a b v vs) = true
    · rw [if_pos c2, if_pos c2, if_pos c2]
      have hn : Ln (chgL w a b v vs) := by
        have := (t.beh (d := .dd w a b v)).1.ln
        simp only [behV] at this
        rw [if_neg c1, if_pos c2] at this
        exact this
      exact do_dd f1 (change_ok f1 t.ln f2 f3 (by omega) (by omega) hn hp)
    · rw [if_neg c2, if_neg c2, if_neg c2]
      have hx : ∃ x ∈ chgL w a b v vs, ¬ (-999 ≤ x ∧ x ≤ 999) := by
        by_cases q : ∃ x ∈ chgL w a b v vs, ¬ (-999 ≤ x ∧ x ≤ 999)
        · exact q
        · exfalso
          refine c2 (List.all_eq_true.mpr fun x hx => ?_)
          by_cases r : -999 ≤ x ∧ x ≤ 999
          · rw [decide_eq_true r.1, decide_eq_true r.2]; rfl
          · exact absurd ⟨x, hx, r⟩ q
      obtain ⟨x, hx1, hx2⟩ := hx
      exact do_exc (by decide) f1 (change_great f1 t.ln f2 f3 (by omega) (by omega) hx1 hx2)

end Lw
namespace Lw
open PySem PySem.Spec PyProof.Rows L2 DL
local macro_rules | `(tactic| walk_at "ev") => `(tactic| simp -implicitDefEqProofs only [e_run, e_var, e_c, e_bin, e_neg, e_test, e_not, e_and, e_or, e_andV, e_orV, e_notV, e_if, e_chain, e_isi, e_cb, e_cons, e_nil, e_tup, e_lst, e_sl, e_part, e_noPart, e_rev, e_lenO, e_lenP, e_scr, e_obin, e_slO, e_call, res_ok, res_exc, e_aacons, e_aanil, e_aapin, e_seq, e_next, e_brk, e_cont, e_drop, e_ret, e_ifS, nxO_some, e_asg, e_par, e_raise, e_town, e_ownL, e_ownD, e_app, e_appT, e_ext, e_setI, runO_some, e_frz, e_for, e_while, e_itL, e_itT, e_rng1, e_rng2, e_enum, e_zip, e_zip3, kZip3, kZip33, e_lc, e_yes, bindO_some, g_name, g_tup2, g_tup3, g_tup4, g_lst2, g_lst3, g_nil, g_cons, putS_0n, putS_0d, putS_0o, putS_0j, plainS_j, putS_s, kTup_le, kLst_le, kOwnL_le, appB_le, sAppT_le, extB_le, bind_ok', bind_exc', thn_ok', thn_exc', nox_ok', lift_some, seq_nx', seq_rt', seq_ct', seq_bk', seq_exc', loop_nx, loop_ct, loop_bk, loop_rt, loop_exc, kLift, kBin, kNeg, kTest, kNot, kNotV, kPick_t, kPick_f, kOk, kChain, kChain1, kChain2, kIsi, kCB, kHead, kCons, kSl, kSl1, kSl2, kPart, kRev, kCall, kAA, kPin, kNx, kRt, kAsg, kPar, kApp, sApp, kExt, sExt, kSet, kSet1, kSet2, setB, kFor, kWh, kItL, kItT, kEnum, kZip, kZip2, kLcE, kLc, kLc1, kLc2, varB, lenB, lenPB, scrB, kOwn, ownB, sOwn, slB, kSlO1, kSlO2, sSlO, end_rt', end_nx', end_exc', tyD, kit_NoneType_int, kit_NoneType_bool, kit_NoneType_tuple, kit_NoneType_list, kit_NoneType_str, kit_bool_int, kit_bool_bool, kit_bool_tuple, kit_bool_list, kit_bool_str, kit_int_int, kit_int_bool, kit_int_tuple, kit_int_list, kit_int_str, kit_str_int, kit_str_bool, kit_str_tuple, kit_str_list, kit_str_str, kit_list_int, kit_list_bool, kit_list_tuple, kit_list_list, kit_list_str, kit_tuple_int, kit_tuple_bool, kit_tuple_tuple, kit_tuple_list, kit_tuple_str, kit_dict_int, kit_dict_bool, kit_dict_tuple, kit_dict_list, kit_dict_str, pinsFrom, sl, isPin, noPin, plainS_n, plainS_d, argS, pinsOk, putPins, frz, wipeS, backS, seqD, oAdd_int, oSub_int, oCmp, oLen_l, oLen_t, oTupleOf, oListOf, oInt1, idx_0, idx_1, idx_2, idx_3, idx_l0, oEq_int, oNe_int, oIsN, oNotN, DL.isNon, List.length_cons, List.length_nil, List.map_cons, List.map_nil, List.set_cons_zero, List.set_cons_succ, List.replicate, List.cons_append, List.nil_append, List.append_nil, List.all_cons, List.all_nil, List.contains_cons, List.contains_nil, Option.map_some, Option.bind_some, Nat.reduceSub, Nat.reduceAdd, Nat.reduceLeDiff, if_true, if_false, Bool.false_eq_true, eq_self, Nat.reduceBEq, Bool.or_false, Bool.or_true, Bool.false_or, Bool.true_or, Nat.zero_add, cz0, cz1, cz2, cz3, cz4, cz5, cz6, cz7, cz8, cz9, cz10, cz11, cz12, cz13, cz14, cz15, cz16, cz17, Int.reduceEq, Int.reduceLT, Int.reduceLE, Int.reduceAdd, Int.reduceSub, Int.reduceNeg, Int.reduceMul, decide_true, decide_false, Bool.and_false, Bool.false_and, Bool.and_true, Bool.true_and, Bool.not_false, Bool.not_true, oMax2_int, oMin2_int, oAbs_int, sl_l, sl_t, seqD_l, seqD_t, List.length_map, List.length_append, enumD_map, zipD_map, zip3D_map, cut_1, map_tail', ixN_last, e_mtL, kMtL_l, oSum_il, oSorted_il, oNe_line, oEq_line, set_last, set_lastM, e_try, try_rt, try_nx, e_menu, e_lz, kLZ, e_ez, kEz, e_ownC, ownB', e_parL, parLB, oIn_il, oNIn_il, e_chain3, kCh, kCh1, kCh2, kCh3, kCh4, e_revT, kRevT, e_setD, kSetD, kSetD1, kSetD2, e_callV, callV_0, callV_1, callV_2, e_forF3, kF1, kF2, loopF_nx, e_get, kGet1, kGet2, kGet3, e_orLast, orLB, e_ownD1, e_getD, sGetD, kGetD1, kGetD2, getDB, e_m1, kM1_s, e_sortIt, kSortIt, e_view, kView, e_dict0, e_mulF, mulA_l, e_rngD, e_ownF, e_dropF, e_fr, freshB_ok, freshR_ok, ownF, argNoL, noL, noLs, sameK, noLs_ints, noLs_st, noL_line, nxO_some, e_aHere, hereR_t, e_aPast0, past0R_t, e_aPastT, pastTR_t, e_asPush, e_asHere, kHere, hereB_t, hereB_r, e_asPast0, pastB_t, pastB_h, e_asPastL, kPastL_t, kPastL_l, e_asPopH, e_meth, methB_t, e_make, makeR_ok, makeR_exc, e_tmp, e_tmpB, tmpR_ok, tmpR_exc, tmp2_ok, e_callT, callTR_ok, e_retP, e_runT, outT_nx, outTR_t, outT_exc, e_try0, try0_rt, e_copyO, copyB_l, e_lenL, lenLB_l, e_pbin, pbinB_l, pbinK_e, pbinB2_l, e_appL, appLB_l, appLK_e, e_popL, e_pinL, e_dkNil, e_dkCons, dkK_e, dkH_e, e_disp])
local macro_rules | `(tactic| walk_at "evh") => `(tactic| simp -implicitDefEqProofs only [e_run, e_var, e_c, e_bin, e_neg, e_test, e_not, e_and, e_or, e_andV, e_orV, e_notV, e_if, e_chain, e_isi, e_cb, e_cons, e_nil, e_tup, e_lst, e_sl, e_part, e_noPart, e_rev, e_lenO, e_lenP, e_scr, e_obin, e_slO, e_call, res_ok, res_exc, e_aacons, e_aanil, e_aapin, e_seq, e_next, e_brk, e_cont, e_drop, e_ret, e_ifS, nxO_some, e_asg, e_par, e_raise, e_town, e_ownL, e_ownD, e_app, e_appT, e_ext, e_setI, runO_some, e_frz, e_for, e_while, e_itL, e_itT, e_rng1, e_rng2, e_enum, e_zip, e_zip3, kZip3, kZip33, e_lc, e_yes, bindO_some, g_name, g_tup2, g_tup3, g_tup4, g_lst2, g_lst3, g_nil, g_cons, putS_0n, putS_0d, putS_0o, putS_0j, plainS_j, putS_s, kTup_le, kLst_le, kOwnL_le, appB_le, sAppT_le, extB_le, bind_ok', bind_exc', thn_ok', thn_exc', nox_ok', lift_some, seq_nx', seq_rt', seq_ct', seq_bk', seq_exc', loop_nx, loop_ct, loop_bk, loop_rt, loop_exc, kLift, kBin, kNeg, kTest, kNot, kNotV, kPick_t, kPick_f, kOk, kChain, kChain1, kChain2, kIsi, kCB, kHead, kCons, kSl, kSl1, kSl2, kPart, kRev, kCall, kAA, kPin, kNx, kRt, kAsg, kPar, kApp, sApp, kExt, sExt, kSet, kSet1, kSet2, setB, kFor, kWh, kItL, kItT, kEnum, kZip, kZip2, kLcE, kLc, kLc1, kLc2, varB, lenB, lenPB, scrB, kOwn, ownB, sOwn, slB, kSlO1, kSlO2, sSlO, end_rt', end_nx', end_exc', tyD, kit_NoneType_int, kit_NoneType_bool, kit_NoneType_tuple, kit_NoneType_list, kit_NoneType_str, kit_bool_int, kit_bool_bool, kit_bool_tuple, kit_bool_list, kit_bool_str, kit_int_int, kit_int_bool, kit_int_tuple, kit_int_list, kit_int_str, kit_str_int, kit_str_bool, kit_str_tuple, kit_str_list, kit_str_str, kit_list_int, kit_list_bool, kit_list_tuple, kit_list_list, kit_list_str, kit_tuple_int, kit_tuple_bool, kit_tuple_tuple, kit_tuple_list, kit_tuple_str, kit_dict_int, kit_dict_bool, kit_dict_tuple, kit_dict_list, kit_dict_str, pinsFrom, sl, isPin, noPin, plainS_n, plainS_d, argS, pinsOk, putPins, frz, wipeS, backS, seqD, oAdd_int, oSub_int, oCmp, oLen_l, oLen_t, oTupleOf, oListOf, oInt1, idx_0, idx_1, idx_2, idx_3, idx_l0, oEq_int, oNe_int, oIsN, oNotN, DL.isNon, List.length_cons, List.length_nil, List.map_cons, List.map_nil, List.set_cons_zero, List.set_cons_succ, List.replicate, List.cons_append, List.nil_append, List.append_nil, List.all_cons, List.all_nil, List.contains_cons, List.contains_nil, Option.map_some, Option.bind_some, Nat.reduceSub, Nat.reduceAdd, Nat.reduceLeDiff, if_true, if_false, Bool.false_eq_true, eq_self, Nat.reduceBEq, Bool.or_false, Bool.or_true, Bool.false_or, Bool.true_or, Nat.zero_add, cz0, cz1, cz2, cz3, cz4, cz5, cz6, cz7, cz8, cz9, cz10, cz11, cz12, cz13, cz14, cz15, cz16, cz17, Int.reduceEq, Int.reduceLT, Int.reduceLE, Int.reduceAdd, Int.reduceSub, Int.reduceNeg, Int.reduceMul, decide_true, decide_false, Bool.and_false, Bool.false_and, Bool.and_true, Bool.true_and, Bool.not_false, Bool.not_true, oMax2_int, oMin2_int, oAbs_int, sl_l, sl_t, seqD_l, seqD_t, List.length_map, List.length_append, enumD_map, zipD_map, zip3D_map, cut_1, map_tail', ixN_last, e_mtL, kMtL_l, oSum_il, oSorted_il, oNe_line, oEq_line, set_last, set_lastM, e_try, try_rt, try_nx, e_menu, e_lz, kLZ, e_ez, kEz, e_ownC, ownB', e_parL, parLB, oIn_il, oNIn_il, e_chain3, kCh, kCh1, kCh2, kCh3, kCh4, e_revT, kRevT, e_setD, kSetD, kSetD1, kSetD2, e_callV, callV_0, callV_1, callV_2, e_forF3, kF1, kF2, loopF_nx, e_get, kGet1, kGet2, kGet3, e_orLast, orLB, e_ownD1, e_getD, sGetD, kGetD1, kGetD2, getDB, e_m1, kM1_s, e_sortIt, kSortIt, e_view, kView, e_dict0, e_mulF, mulA_l, e_rngD, e_ownF, e_dropF, e_fr, freshB_ok, freshR_ok, ownF, argNoL, noL, noLs, sameK, noLs_ints, noLs_st, noL_line, nxO_some, e_aHere, hereR_t, e_aPast0, past0R_t, e_aPastT, pastTR_t, e_asPush, e_asHere, kHere, hereB_t, hereB_r, e_asPast0, pastB_t, pastB_h, e_asPastL, kPastL_t, kPastL_l, e_asPopH, e_meth, methB_t, e_make, makeR_ok, makeR_exc, e_tmp, e_tmpB, tmpR_ok, tmpR_exc, tmp2_ok, e_callT, callTR_ok, e_retP, e_runT, outT_nx, outTR_t, outT_exc, e_try0, try0_rt, e_copyO, copyB_l, e_lenL, lenLB_l, e_pbin, pbinB_l, pbinK_e, pbinB2_l, e_appL, appLB_l, appLK_e, e_popL, e_pinL, e_dkNil, e_dkCons, dkK_e, dkH_e, e_disp, oAdd_l, oAdd_t, oMul_int, oMul_intR, oMul_rep, oMod_int, oPow_5, oIdx_at, kRng1_le, kRng2_le, kLc3_le, appB_le, extB_le, sAppT_le, *])

/-! law -/
theorem tells_ne (vs : List Int) (ps : List (List Int)) (d : Dd) : oNe (tells vs ps d) (tells vs ps d) = some (.bool false) := by
  cases d with
  | undo =>
    simp only [tells]
    split
    · have := oNe_ref 8 8
      rw [decide_eq_true rfl] at this; exact this
    · rfl
  | dd w a b v =>
    simp only [tells]
    split
    · have := oNe_ref 3 3
      rw [decide_eq_true rfl] at this; exact this
    · split
      · have := oNe_int (unl vs (chgL w a b v vs) : Nat) (unl vs (chgL w a b v vs) : Nat)
        rw [decide_eq_true rfl] at this; exact this
      · have := oNe_ref 7 7
        rw [decide_eq_true rfl] at this; exact this
theorem flat_tk {n : Nat} {c : Int} (h : 1 ≤ n ∧ n ≤ 60) (hc : -999 ≤ c ∧ c ≤ 999) : Tk n (List.replicate n c) [] :=
  ⟨⟨by rw [List.length_replicate]; exact h.1, by rw [List.length_replicate]; exact h.2, fun x hx => by rw [List.eq_of_mem_replicate hx]; exact hc⟩, List.length_replicate, fun q hq => by cases hq⟩
theorem refD_eq (k : Int) : oEq (refD k) (.tuple [.str "refused", .int k]) = some (.bool true) := by
  have := oEq_ref k k
  rw [decide_eq_true rfl] at this
  exact this
theorem wh_step {c : AT} {x : AS} {ρ ρ1 : List Sl} {P : List Sl → Prop} (h1 : c ρ = .ok true ρ1) (h2 : ∃ ρ2, x ρ1 = .nx ρ2 ∧ P ρ2) : ∃ ρ1 ρ2, c ρ = .ok true ρ1 ∧ x ρ1 = .nx ρ2 ∧ P ρ2 := by
  obtain ⟨ρ2, h2, h3⟩ := h2
  exact ⟨ρ1, ρ2, h1, h2, h3⟩
theorem ixN_neg {n : Nat} {k : Nat} (h0 : 1 ≤ k) (h : k ≤ n) : ixN n (-(k : Int)) = some (n - k) := by
  unfold ixN
  rw [if_neg (by omega)]
  rw [if_pos (by omega)]
  congr 1
  omega
theorem idx_two (i : List PyData) (x y : PyData) : oIdx (.list (i ++ [x, y])) (.int (-2)) = some x := by
  show atI (i ++ [x, y]) (-2) = some x
  unfold atI
  rw [show (-2 : Int) = -((2 : Nat) : Int) from rfl, ixN_neg (by decide) (by rw [List.length_append]; show 2 ≤ i.length + 2; omega)]
  show (i ++ [x, y])[(i ++ [x, y]).length - 2]? = some x
  rw [List.length_append, show i.length + [x, y].length - 2 = i.length from rfl, List.getElem?_append_right (Nat.le_refl _), Nat.sub_self]
  rfl
theorem at_set {l : List Int} {j i : Int} {x : Int} (h0 : 0 ≤ i) (h1 : i < l.length) (j0 : 0 ≤ j) : at' (l.set j.toNat x) i = if i = j then x else at' l i := by
  unfold at'
  rw [List.getD_eq_getElem?_getD, List.getD_eq_getElem?_getD, List.getElem?_set]
  by_cases c : i = j
  · rw [if_pos (by rw [c]), if_pos (by omega), if_pos c]; rfl
  · rw [if_neg (by omega), if_neg c]
theorem ixN_at {n : Nat} {i : Int} (h0 : 0 ≤ i) (h : i < n) : ixN n i = some i.toNat := by
  unfold ixN
  simp only [h0, h, if_true]
theorem chg_none {w : Nat} {a v : Int} {vs : List Int} : chgL w a (a - 1) v vs = vs := by
  refine at_ext chgL_len fun i h0 h1 => ?_
  rw [chgL_len] at h1
  rw [chgL_at h0 h1, if_neg (by omega)]
theorem chg_step {w : Nat} {a b v : Int} {vs : List Int} (h0 : 0 ≤ a) (h1 : a - 1 ≤ b) (h2 : b + 1 < vs.length) : (chgL w a b v vs).set (b + 1).toNat (newV w (at' vs (b + 1)) v) = chgL w a (b + 1) v vs := by
  refine at_ext (by rw [List.length_set, chgL_len, chgL_len]) fun i i0 i1 => ?_
  rw [List.length_set, chgL_len] at i1
  rw [at_set i0 (by rw [chgL_len]; exact i1) (by omega), chgL_at i0 i1, chgL_at i0 i1]
  by_cases c : i = b + 1
  · rw [if_pos c, if_pos (by omega), c]
  · rw [if_neg c]
    by_cases c2 : a ≤ i ∧ i ≤ b
    · rw [if_pos c2, if_pos (by omega)]
    · rw [if_neg c2, if_neg (by omega)]
theorem rng_split' : ∀ {a : List Int} {lo : Int} {n : Nat} {b : Int} {c : List Int}, rng lo n = a ++ b :: c → b = lo + a.length
  | [], lo, 0, b, c, h => by cases h
  | [], lo, n + 1, b, c, h => by
    rw [rng_cons] at h
    have h : lo :: rng (lo + 1) n = b :: c := h
    injection h with h1 h2
    rw [← h1]; simp
  | x :: a, lo, 0, b, c, h => by cases h
  | x :: a, lo, n + 1, b, c, h => by
    rw [rng_cons] at h
    have h : lo :: rng (lo + 1) n = x :: (a ++ b :: c) := h
    injection h with h1 h2
    rw [rng_split' h2, List.length_cons]; omega
/-- what stands at a word -/
theorem word_get {w : Nat} (hw : w < 4) (o v : Int) : oGetK (.dict [(.str "put", .int v), (.str "add", .int (o + v)), (.str "lift", .int (max o v)), (.str "press", .int (min o v))]) (.str (wd w)) = some (.int (newV w o v)) := by
  rcases (show w = 0 ∨ w = 1 ∨ w = 2 ∨ w = 3 by omega) with rfl | rfl | rfl | rfl <;> rfl
theorem words_nd : (["put", "add", "lift", "press"] : List Str).Nodup := by decide +kernel
theorem okL_iff {l : List Int} (h : l ≠ []) : okL l = true ↔ maxL l ≤ 999 ∧ -999 ≤ minL l := by
  unfold okL
  rw [List.all_eq_true]
  constructor
  · intro q
    have h1 := q _ (maxL_mem h)
    have h2 := q _ (minL_mem h)
    rw [Bool.and_eq_true, decide_eq_true_eq, decide_eq_true_eq] at h1 h2
    exact ⟨h1.2, h2.1⟩
  · intro q x hx
    have h1 := maxL_le hx
    have h2 := minL_le hx
    rw [Bool.and_eq_true, decide_eq_true_eq, decide_eq_true_eq]
    omega
/-- the law's own rows: lines that were, and the line now -/
abbrev rowsD (ps : List (List Int)) (vs : List Int) : List PyData := ps.map il ++ [il vs]
theorem own_undo (vs q : List Int) (ps : List (List Int)) : f__law_own [.pin (.lst (rowsD (ps ++ [q]) vs)), .dat (ddD .undo)] = .ok .none [.pin (.lst (rowsD ps q)), .none] := by
  unfold f__law_own b__law_own ddD rowsD
  walk_at "ev"
  simp only [show oEq (.str "undo") (.str "undo") = some (.bool true) from wd_undo (k := 4) (by decide)]
  walk_at "ev"
  simp only [decide_eq_false (show ¬ (((ps.length + 1 : Nat) + 1 : Nat) : Int) = 1 by omega)]
  walk_at "ev"
  rw [popLB_snoc]
  walk_at "ev"
  rw [List.map_append]
  rfl
theorem own_undo0 (vs : List Int) : f__law_own [.pin (.lst (rowsD [] vs)), .dat (ddD .undo)] = .ok (refD 8) [.pin (.lst (rowsD [] vs)), .none] := by
  unfold f__law_own b__law_own ddD rowsD
  walk_at "ev"
  simp only [show oEq (.str "undo") (.str "undo") = some (.bool true) from wd_undo (k := 4) (by decide)]
  walk_at "ev"
theorem own_ok {n : Nat} {vs : List Int} {ps : List (List Int)} {d : Dd} (t : Tk n vs ps) (hp : ps.length ≤ 5000) (hf : Fit n d) : f__law_own [.pin (.lst (rowsD ps vs)), .dat (ddD d)] = .ok (tells vs ps d) [.pin (.lst (rowsD (behP vs ps d) (behV vs ps d))), .none] := by
  cases d with
  | undo =>
    rcases List.eq_nil_or_concat ps with e | ⟨qs, q, e⟩
    · subst e
      exact own_undo0 vs
    · rw [List.concat_eq_append] at e
      subst e
      rw [own_undo vs q qs]
      unfold tells behV behP
      rw [if_neg (by simp), if_neg (by simp), List.dropLast_concat]
      unfold lastL
      rw [List.getLast?_concat]; rfl
  | dd w a b v =>
    obtain ⟨f1, f2, f3, f4, f5, f6⟩ := hf
    have hl := t.len
    have hle := t.ln.le
    have hne := t.ln.ne
    simp only [tells, behV, behP, ddD]
    unfold f__law_own b__law_own
    walk_at "ev"
    simp only [wd_undo (show w < 5 by omega), decide_eq_false (show ¬ w = 4 by omega)]
    walk_at "ev"
    by_cases c1 : v > 999
    · rw [if_pos c1, if_pos c1, if_pos c1]
      simp only [decide_eq_true c1]
      walk_at "ev"
    rw [if_neg c1, if_neg c1, if_neg c1]
    simp only [decide_eq_false c1]
    walk_at "ev"
    rw [show rowsD ps vs = ps.map il ++ [il vs] from rfl, idx_last]
    walk_at "ev"
    rw [kRng2_le (by omega) (by omega), rangeD_eq]
    walk_at "ev"
    refine for_run (fun r => SRes.end _ (SRes.seq r _) = _) PyData.int (fun pre ρ => ∃ o7 o8 : Option PyData, ρ = [.pin (.lst (rowsD ps vs)), .dat (.tuple [.str (wd w), .int a, .int b, .int v]), .dat (.str (wd w)), .dat (.int a), .dat (.int b), .dat (.int v), .own (il (chgL w a (a + (pre.length : Int) - 1) v vs)), jk o7, jk o8, .none, .none]) ⟨none, none, by rw [show a + (([] : List Int).length : Int) - 1 = a - 1 by show a + 0 - 1 = a - 1; omega, chg_none]; rfl⟩ (fun pr q c ec ρ ⟨o7, o8, hρ⟩ => ?_) (fun ρ' ⟨o7, o8, hρ⟩ => ?_)
    · subst hρ
      have hq : q = a + pr.length := rng_split' ec
      have hlt : pr.length < (b + 1 - a).toNat := by
        have := congrArg List.length ec
        rw [rng_len, List.length_append, List.length_cons] at this
        omega
      subst hq
      have hlc : (chgL w a (a + (pr.length : Int) - 1) v vs).length = vs.length := chgL_len
      have hat : at' (chgL w a (a + (pr.length : Int) - 1) v vs) (a + pr.length) = at' vs (a + pr.length) := by
        rw [chgL_at (by omega) (by omega), if_neg (by omega)]
      have hst := chg_step (w := w) (a := a) (b := a + (pr.length : Int) - 1) (v := v) (vs := vs) f2 (by omega) (by omega)
      rw [show a + (pr.length : Int) - 1 + 1 = a + pr.length by omega] at hst
      refine ⟨[.pin (.lst (rowsD ps vs)), .dat (.tuple [.str (wd w), .int a, .int b, .int v]), .dat (.str (wd w)), .dat (.int a), .dat (.int b), .dat (.int v), .own (il (chgL w a (a + pr.length) v vs)), .dat (.int (a + pr.length)), .dat (.int (at' vs (a + pr.length))), .none, .none], .inl ?_, some _, some _, by rw [List.length_append, List.length_singleton, show a + ((pr.length + 1 : Nat) : Int) - 1 = a + pr.length by omega]; rfl⟩
      rw [← hst]
      generalize hG : chgL w a (a + (pr.length : Int) - 1) v vs = G at hlc hat hst ⊢
      walk_at "ev"
      rw [oIdx_at (l := G) (i := a + pr.length) (by omega) (by omega), hat]
      walk_at "ev"
      rw [dispK_ok (kvs := [("put", .int v), ("add", .int (at' vs (a + pr.length) + v)), ("lift", .int (max (at' vs (a + pr.length)) v)), ("press", .int (min (at' vs (a + pr.length)) v))]) ⟨by show 4 ≤ 15; decide, words_nd⟩]
      walk_at "ev"
      rw [word_get f1]
      walk_at "ev"
      simp only [ixN_at (n := G.length) (i := a + pr.length) (by omega) (by omega), Option.map_some, nxO_some]
      simp only [il, List.map_set]
    subst hρ
    rw [rng_len, show a + (((b + 1 - a).toNat : Nat) : Int) - 1 = b by omega]
    obtain ⟨cs, hcs⟩ : ∃ cs, cs = chgL w a b v vs := ⟨_, rfl⟩
    have lcs : cs.length = vs.length := by rw [hcs, chgL_len]
    have cne : cs ≠ [] := fun q => by rw [q, List.length_nil] at lcs; have := t.ln.pos; omega
    rw [← hcs]
    walk_at "ev"
    rw [oMax_il cne]
    walk_at "ev"
    by_cases ck : okL cs = true
    · obtain ⟨c2, c3⟩ := (okL_iff cne).mp ck
      rw [if_pos ck, if_pos ck, if_pos ck]
      simp only [decide_eq_false (show ¬ maxL cs > 999 by omega)]
      walk_at "ev"
      rw [oMin_il cne]
      walk_at "ev"
      simp only [decide_eq_false (show ¬ minL cs < -999 by omega)]
      walk_at "ev"
      rw [appLB2_le (by unfold rowsD; rw [List.length_append, List.length_map, List.length_singleton]; omega)]
      walk_at "ev"
      rw [show rowsD ps vs ++ [il cs] = ps.map il ++ [il vs, il cs] by unfold rowsD; rw [List.append_assoc]; rfl, idx_two]
      walk_at "ev"
      rw [lc_fm (fun p : Int × Int => .tuple [.int p.1, .int p.2]) (fun _ => .int 1) (fun p => !decide (p.1 = p.2)) (vs.zip cs) [] (fun p hp' rest acc ha => ?_) (by rw [List.length_zip]; show 0 + _ ≤ _; omega)]
      rotate_left
      · rw [lcGo_cons]
        walk_at "ev"
        by_cases c : p.1 = p.2
        · simp only [decide_eq_true c]
          walk_at "ev"
        · simp only [decide_eq_false c]
          walk_at "ev"
          simp only [kLc3_le ha]
          walk_at "ev"
      rw [List.nil_append]
      walk_at "ev"
      unfold rowsD unl
      rw [List.map_append, List.append_assoc]
      rfl
    · rw [if_neg ck, if_neg ck, if_neg ck]
      by_cases c2 : maxL cs > 999
      · simp only [decide_eq_true c2]
        walk_at "ev"
      · simp only [decide_eq_false c2]
        walk_at "ev"
        rw [oMin_il cne]
        walk_at "ev"
        simp only [decide_eq_true (show minL cs < -999 by
          by_cases q : -999 ≤ minL cs
          · exact absurd ((okL_iff cne).mpr ⟨by omega, q⟩) ck
          · omega)]
        walk_at "ev"
theorem law_true : ∀ ns, Scr ns → ∃ ss, f_law [.pin (.scr ns)] = .ok (.bool true) ss := by
  intro ns _
  obtain ⟨r, hr, e1⟩ := draw_ok ns 0 (m := 60) (by omega) (by decide)
  obtain ⟨n, hn⟩ := Int.eq_ofNat_of_zero_le (show 0 ≤ 1 + r by omega)
  have hn60 : 1 ≤ n ∧ n ≤ 60 := by omega
  obtain ⟨d, hd, e2⟩ := pick_ok ns 1 (ds := [.int 0, .int 0, .int 5, .int (-999), .int 999]) (by omega) (by simp)
  obtain ⟨w, hw, rfl⟩ : ∃ w : Int, (-999 ≤ w ∧ w ≤ 999) ∧ d = .int w := by
    simp only [List.mem_cons, List.not_mem_nil, or_false] at hd
    rcases hd with rfl | rfl | rfl | rfl | rfl <;> exact ⟨_, by decide, rfl⟩
  obtain ⟨d, hd, e3⟩ := pick_ok ns 2 (ds := [.int 31, .int 31, .int 31, .int 200]) (by omega) (by simp)
  obtain ⟨z, hz, rfl⟩ : ∃ z : Int, (31 ≤ z ∧ z ≤ 200) ∧ d = .int z := by
    simp only [List.mem_cons, List.not_mem_nil, or_false] at hd
    rcases hd with rfl | rfl | rfl | rfl <;> exact ⟨_, by decide, rfl⟩
  obtain ⟨y, hy, e4⟩ := draw_ok ns 3 (m := z) (by omega) (by omega)
  have i0 := init_ok hn60 hw
  have hrep : PyData.list (List.replicate n (.int w)) = il (List.replicate n w) := by rw [il, List.map_replicate]
  refine ⟨[.pin (.scr ns)], ?_⟩
  unfold f_law b_law
  unfold tr at i0
  walk_at "ev"
  simp only [e1]
  walk_at "ev"
  rw [hn]
  simp only [e2]
  walk_at "ev"
  rw [makeB_y rfl]
  walk_at "ev"
  simp only [i0]
  walk_at "ev"
  rw [oMul_rep (x := .int w) (d := (n : Int)) (by omega) (by omega), Int.toNat_natCast, hrep]
  walk_at "ev"
  rw [pinLB_le (by show 1 ≤ 1000; decide)]
  walk_at "ev"
  simp only [e3]
  walk_at "ev"
  simp only [e4]
  walk_at "ev"
  rw [kRng1_le (by omega) (by omega), rangeD_eq]
  walk_at "ev"
  refine for_run (fun x => SRes.end _ (SRes.seq x _) = _) PyData.int (fun pre ρ => ∃ (m : Nat) (o6 o7 : Option PyData) (vs : List Int) (ps : List (List Int)), (m ≤ 4 + 5 * pre.length ∧ Tk n vs ps ∧ ps.length ≤ pre.length) ∧ ρ = [.pin (.scr ns), .pin (.town m), .dat (.int n), .dat (.int w), tr vs ps, .pin (.lst (rowsD ps vs)), jk o6, jk o7]) ⟨4, none, none, List.replicate n w, [], ⟨by decide, flat_tk hn60 hw, Nat.le_refl _⟩, rfl⟩ (fun a b c e ρ ⟨m, o6, o7, vs, ps, ⟨hm, ht, hp⟩, hρ⟩ => ?_) (fun ρ' ⟨m, o6, o7, vs, ps, ⟨hm, ht, hp⟩, hρ⟩ => ?_)
  · subst hρ
    obtain ⟨_, _, hlt⟩ := rng_pre e
    have hlt : a.length < 200 := by omega
    obtain ⟨d, n', hn', hf, e5⟩ := deed_ok ns m (long := (n : Int)) (by omega) (by omega)
    have e6 := do_ok (d := d) ht (by omega) hf
    have e7 := own_ok (d := d) ht (by omega) hf
    obtain ⟨t1, t2⟩ := ht.beh (d := d)
    have hl := t1.ln.le
    have l1 := tline_ok (behV vs ps d) (behP vs ps d)
    refine ⟨[.pin (.scr ns), .pin (.town n'), .dat (.int n), .dat (.int w), tr (behV vs ps d) (behP vs ps d), .pin (.lst (rowsD (behP vs ps d) (behV vs ps d))), .dat (.int b), .dat (ddD d)], .inl ?_, n', some _, some _, _, _, ⟨by rw [List.length_append, List.length_singleton]; omega, t1, by rw [List.length_append, List.length_singleton]; omega⟩, rfl⟩
    unfold tr at e6 l1 ⊢
    walk_at "ev"
    simp only [e5]
    walk_at "ev"
    simp only [e6]
    walk_at "ev"
    simp only [e7]
    walk_at "ev"
    simp only [tells_ne]
    walk_at "ev"
    simp only [l1]
    walk_at "ev"
    rw [idx_last]
    walk_at "ev"
    simp only [law_of_ok (behV vs ps d) (by omega)]
    walk_at "ev"
  subst hρ
  have hp : ps.length ≤ 199 := by rw [rng_len] at hp; omega
  walk_at "ev"
  refine wh_run (fun r => SRes.end _ (SRes.seq r _) = _) (fun k ρ => ∃ (vs : List Int) (ps : List (List Int)), (Tk n vs ps ∧ ps.length + 1 ≤ k) ∧ ρ = [.pin (.scr ns), .pin (.town m), .dat (.int n), .dat (.int w), tr vs ps, .pin (.lst (rowsD ps vs)), jk o6, jk o7]) (fun ρ ⟨vs, ps, ⟨_, h⟩, _⟩ => by omega) (fun k ρ ⟨vs, ps, ⟨ht, hk⟩, hρ⟩ => ?_) 200 _ ⟨vs, ps, ⟨ht, by omega⟩, rfl⟩
  subst hρ
  rcases List.eq_nil_or_concat ps with rfl | ⟨qs, q, rfl⟩
  · have u0 : f__law_do [.pin (.trk (lineD vs) []), .dat (.tuple [.str "undo"])] = .ok (refD 8) [.pin (.trk (lineD vs) []), .none] := do_undo0 vs
    refine .inl ⟨[.pin (.scr ns), .pin (.town m), .dat (.int n), .dat (.int w), tr vs [], .pin (.lst (rowsD [] vs)), jk o6, jk o7], ?_, ?_⟩
    · unfold tr
      walk_at "ev"
    · unfold tr
      walk_at "ev"
      simp only [u0]
      walk_at "ev"
      simp only [refD_eq]
      walk_at "ev"
  · rw [List.concat_eq_append] at *
    have u1 := do_undo vs q qs
    obtain ⟨q1, q2⟩ := ht.past q (by simp)
    have hl := q1.le
    have l1 := tline_ok q qs
    unfold ddD at u1
    refine .inr (wh_step (ρ1 := [.pin (.scr ns), .pin (.town m), .dat (.int n), .dat (.int w), tr vs (qs ++ [q]), .pin (.lst (rowsD (qs ++ [q]) vs)), jk o6, jk o7]) ?_ ⟨[.pin (.scr ns), .pin (.town m), .dat (.int n), .dat (.int w), tr q qs, .pin (.lst (rowsD qs q)), jk o6, jk o7], ?_, q, qs, ⟨⟨q1, q2, fun x hx => ht.past x (List.mem_append_left _ hx)⟩, by rw [List.length_append, List.length_singleton] at hk; omega⟩, rfl⟩)
    · unfold tr
      walk_at "ev"
      simp only [decide_eq_true (show (((qs.length + 1 : Nat) + 1 : Nat) : Int) > 1 by omega)]
    · unfold tr at u1 l1 ⊢
      walk_at "ev"
      rw [show rowsD (qs ++ [q]) vs = rowsD qs q ++ [il vs] by unfold rowsD; rw [List.map_append]; rfl, popLB_snoc]
      walk_at "ev"
      simp only [u1]
      walk_at "ev"
      simp only [l1]
      walk_at "ev"
      rw [idx_last]
      walk_at "ev"
      simp only [law_of_ok q (by omega)]
      walk_at "ev"

end Lw
namespace Lw
open PySem PySem.Spec PyProof.Rows L2 DL
def top (i : Nat) : Stmt := PySem.Challenge.pw_stepline_k11_whole_tracks.main.body.getD i (.Pass ⟨0, 0, 0, 0⟩)
def inCls (i j : Nat) : Stmt := match top i with | .ClassDef (body := b) .. => b.getD j (.Pass ⟨0, 0, 0, 0⟩) | s => s
structure Txt (K : Fr) (mg : Str → Option Value) (ca : Nat → Addr) (L : Addr) : Prop where
  n_ValueError : mg "ValueError" = none
  n_all : mg "all" = none
  n_bool : mg "bool" = none
  n_enumerate : mg "enumerate" = none
  n_int : mg "int" = none
  n_isinstance : mg "isinstance" = none
  n_len : mg "len" = none
  n_list : mg "list" = none
  n_max : mg "max" = none
  n_min : mg "min" = none
  n_range : mg "range" = none
  n_tuple : mg "tuple" = none
  n_zip : mg "zip" = none
  g_GREAT : ∃ u, mg "GREAT" = some (.int 999 u)
  g_LONG : ∃ u, mg "LONG" = some (.int 60 u)
  e_NoPlace : ExcAt K mg "NoPlace" (ca 2)
  e_NoStep : ExcAt K mg "NoStep" (ca 8)
  e_NoValue : ExcAt K mg "NoValue" (ca 3)
  e_TooGreat : ExcAt K mg "TooGreat" (ca 7)
  w_Falls : mg "Falls" = some (.ref (ca 6))
  w_NoDeed : mg "NoDeed" = some (.ref (ca 9))
  w_NoLine : mg "NoLine" = some (.ref (ca 0))
  w_NoNumber : mg "NoNumber" = some (.ref (ca 4))
  w_NoPlace : mg "NoPlace" = some (.ref (ca 2))
  w_NoRows : mg "NoRows" = some (.ref (ca 1))
  w_NoStep : mg "NoStep" = some (.ref (ca 8))
  w_NoValue : mg "NoValue" = some (.ref (ca 3))
  w_TooGreat : mg "TooGreat" = some (.ref (ca 7))
  w_Unlike : mg "Unlike" = some (.ref (ca 5))
  exw : ExW K L ((List.range 10).map ca)
  gL : mg "LineError" = some (.ref L)
abbrev gg (K : Fr) (C : Addr) (ca : Nat → Addr) : G := ⟨K, C, fun n => .ref (ca n), 0, 0⟩
section
variable {P : Program} {w : World} {K : Fr} {mg : Str → Option Value} {base : Heap} {C L : Addr} {ca : Nat → Addr} (T : Txt K mg ca L)
variable (TK : TrkOk (gg K C ca))
include T TK
abbrev s_is_whole : Stmt := top 16
omit T TK in
theorem sc_is_whole : FnScope ["thing", "low", "most"] ["thing", "low", "most"] (defScope s_is_whole) := ⟨rfl, rfl, rfl, by decide +kernel, rfl, by decide +kernel, by decide +kernel⟩
theorem ok_is_whole  {f : Addr} {fd : FuncData} (F : Fun K "is_whole" "is_whole" s_is_whole f fd) : FnOk P w K mg base (L2.CX P w) 1 f fd ["thing", "low", "most"] (spG (gg K C ca) 3 f_is_whole) :=
  fn_body (g := gg K C ca) (N := ["thing", "low", "most"]) F sc_is_whole rfl fun cdv A outer s H E hr => by
    have tk : L2.Takes (cxOf (L2.CX P w) P w K mg base ["thing", "low", "most"] "is_whole" (defScope s_is_whole) f cdv A outer s H E) (fun cls d _ H => E cls d H) := L2.takes_of rfl rfl rfl rfl
    have px : ∀ σ, PassesAt (L2.CX P w) (cxOf (L2.CX P w) P w K mg base ["thing", "low", "most"] "is_whole" (defScope s_is_whole) f cdv A outer s H E) σ ((fun _ => E : EX) σ) := fun σ => passAt tk σ
    have q : PSsD (cxOf (L2.CX P w) P w K mg base ["thing", "low", "most"] "is_whole" (defScope s_is_whole) f cdv A outer s H E) (gg K C ca) (fun _ => E) (defBody s_is_whole) _ b_is_whole := pssd_one (psd_ret (pd_and (pd_isi (K := K) T.n_isinstance T.n_int bb_int (pd_var 0)) (pd_and (pd_not (pd_isi (K := K) T.n_isinstance T.n_bool bb_bool (pd_var 0))) (pd_one (pd_leLe (pd_var 1) (pd_var 0) (pd_var 2))))))
    exact ⟨_, q.ps, q.ss⟩
abbrev s_is_value : Stmt := top 17
omit T TK in
theorem sc_is_value : FnScope ["thing"] ["thing"] (defScope s_is_value) := ⟨rfl, rfl, rfl, by decide +kernel, rfl, by decide +kernel, by decide +kernel⟩
theorem ok_is_value (c_is_whole : Cl P w K mg base (gg K C ca) 1 3 "is_whole" f_is_whole) {f : Addr} {fd : FuncData} (F : Fun K "is_value" "is_value" s_is_value f fd) : FnOk P w K mg base (L2.CX P w) 2 f fd ["thing"] (spG (gg K C ca) 1 f_is_value) :=
  fn_body (g := gg K C ca) (N := ["thing"]) F sc_is_value rfl fun cdv A outer s H E hr => by
    have tk : L2.Takes (cxOf (L2.CX P w) P w K mg base ["thing"] "is_value" (defScope s_is_value) f cdv A outer s H E) (fun cls d _ H => E cls d H) := L2.takes_of rfl rfl rfl rfl
    have px : ∀ σ, PassesAt (L2.CX P w) (cxOf (L2.CX P w) P w K mg base ["thing"] "is_value" (defScope s_is_value) f cdv A outer s H E) σ ((fun _ => E : EX) σ) := fun σ => passAt tk σ
    have q : PSsD (cxOf (L2.CX P w) P w K mg base ["thing"] "is_value" (defScope s_is_value) f cdv A outer s H E) (gg K C ca) (fun _ => E) (defBody s_is_value) _ b_is_value := pssd_one (psd_ret (pd_call (K := K) c_is_whole hr px (pad_cons (pd_var 0) (pad_cons (pd_neg (pd_glob T.g_GREAT)) (pad_cons (pd_glob T.g_GREAT) pad_nil)))))
    exact ⟨_, q.ps, q.ss⟩
abbrev s_need_value : Stmt := top 18
omit T TK in
theorem sc_need_value : FnScope ["thing"] ["thing"] (defScope s_need_value) := ⟨rfl, rfl, rfl, by decide +kernel, rfl, by decide +kernel, by decide +kernel⟩
theorem ok_need_value (c_is_value : Cl P w K mg base (gg K C ca) 2 1 "is_value" f_is_value) {f : Addr} {fd : FuncData} (F : Fun K "need_value" "need_value" s_need_value f fd) : FnOk P w K mg base (L2.CX P w) 3 f fd ["thing"] (spG (gg K C ca) 1 f_need_value) :=
  fn_body (g := gg K C ca) (N := ["thing"]) F sc_need_value rfl fun cdv A outer s H E hr => by
    have tk : L2.Takes (cxOf (L2.CX P w) P w K mg base ["thing"] "need_value" (defScope s_need_value) f cdv A outer s H E) (fun cls d _ H => E cls d H) := L2.takes_of rfl rfl rfl rfl
    have px : ∀ σ, PassesAt (L2.CX P w) (cxOf (L2.CX P w) P w K mg base ["thing"] "need_value" (defScope s_need_value) f cdv A outer s H E) σ ((fun _ => E : EX) σ) := fun σ => passAt tk σ
    have q : PSsD (cxOf (L2.CX P w) P w K mg base ["thing"] "need_value" (defScope s_need_value) f cdv A outer s H E) (gg K C ca) (fun _ => E) (defBody s_need_value) _ b_need_value := pssd_one (psd_if (ptd_not (ptd_val (pd_call (K := K) c_is_value hr px (pad_cons (pd_var 0) pad_nil)))) (pssd_one (psd_raise T.e_NoValue rfl tk)) (pssd_nil))
    exact ⟨_, q.ps, q.ss⟩
abbrev s_need_stretch : Stmt := top 19
omit T TK in
theorem sc_need_stretch : FnScope ["line", "first", "last"] ["line", "first", "last"] (defScope s_need_stretch) := ⟨rfl, rfl, rfl, by decide +kernel, rfl, by decide +kernel, by decide +kernel⟩
theorem ok_need_stretch (c_is_whole : Cl P w K mg base (gg K C ca) 1 3 "is_whole" f_is_whole) {f : Addr} {fd : FuncData} (F : Fun K "need_stretch" "need_stretch" s_need_stretch f fd) : FnOk P w K mg base (L2.CX P w) 2 f fd ["line", "first", "last"] (spG (gg K C ca) 3 f_need_stretch) :=
  fn_body (g := gg K C ca) (N := ["line", "first", "last"]) F sc_need_stretch rfl fun cdv A outer s H E hr => by
    have tk : L2.Takes (cxOf (L2.CX P w) P w K mg base ["line", "first", "last"] "need_stretch" (defScope s_need_stretch) f cdv A outer s H E) (fun cls d _ H => E cls d H) := L2.takes_of rfl rfl rfl rfl
    have px : ∀ σ, PassesAt (L2.CX P w) (cxOf (L2.CX P w) P w K mg base ["line", "first", "last"] "need_stretch" (defScope s_need_stretch) f cdv A outer s H E) σ ((fun _ => E : EX) σ) := fun σ => passAt tk σ
    have q : PSsD (cxOf (L2.CX P w) P w K mg base ["line", "first", "last"] "need_stretch" (defScope s_need_stretch) f cdv A outer s H E) (gg K C ca) (fun _ => E) (defBody s_need_stretch) _ b_need_stretch := pssd_one (psd_if (ptd_w (pwd_or (ptd_not (ptd_val (pd_call (K := K) c_is_whole hr px (pad_cons (pd_var 1) (pad_cons (pd_int) (pad_cons (pd_sub (pd_ix (K := K) (pd_var 0) (pd_int)) (pd_int)) pad_nil)))))) (pwd_or1 (ptd_not (ptd_val (pd_call (K := K) c_is_whole hr px (pad_cons (pd_var 2) (pad_cons (pd_var 1) (pad_cons (pd_sub (pd_ix (K := K) (pd_var 0) (pd_int)) (pd_int)) pad_nil))))))))) (pssd_one (psd_raise T.e_NoPlace rfl tk)) (pssd_nil))
    exact ⟨_, q.ps, q.ss⟩
abbrev s_from_list : Stmt := top 20
omit T TK in
theorem sc_from_list : FnScope ["values", "steps", "place", "value"] ["values"] (defScope s_from_list) := ⟨rfl, rfl, rfl, by decide +kernel, rfl, by decide +kernel, by decide +kernel⟩
theorem ok_from_list  {f : Addr} {fd : FuncData} (F : Fun K "from_list" "from_list" s_from_list f fd) : FnOk P w K mg base (L2.CX P w) 1 f fd ["values"] (spG (gg K C ca) 1 f_from_list) :=
  fn_body (g := gg K C ca) (N := ["values", "steps", "place", "value"]) F sc_from_list rfl fun cdv A outer s H E hr => by
    have tk : L2.Takes (cxOf (L2.CX P w) P w K mg base ["values", "steps", "place", "value"] "from_list" (defScope s_from_list) f cdv A outer s H E) (fun cls d _ H => E cls d H) := L2.takes_of rfl rfl rfl rfl
    have px : ∀ σ, PassesAt (L2.CX P w) (cxOf (L2.CX P w) P w K mg base ["values", "steps", "place", "value"] "from_list" (defScope s_from_list) f cdv A outer s H E) σ ((fun _ => E : EX) σ) := fun σ => passAt tk σ
    have q : PSsD (cxOf (L2.CX P w) P w K mg base ["values", "steps", "place", "value"] "from_list" (defScope s_from_list) f cdv A outer s H E) (gg K C ca) (fun _ => E) (defBody s_from_list) _ b_from_list := pssd_cons (psd_ownL (i := 1) pdd_nil sc_from_list.nd) (pssd_cons (psd_for (passes_of rfl) (pid_enum (K := K) T.n_enumerate (pdd_cons (pd_var 0) pdd_nil)) (pgd_tup (K := K) (pgsd_cons (pgd_name 2 sc_from_list.nd) (pgsd_cons (pgd_name 3 sc_from_list.nd) pgsd_nil))) (pssd_one (psd_if (ptd_w (pwd_or (ptd_oeq (K := K) (i := 1) hr.units (pd_lst pdd_nil) (pv 1)) (pwd_or1 (ptd_ne (K := K) hr.units (pd_ix (K := K) (pd_oix (K := K) (i := 1) (pd_neg (pd_int)) (pv 1)) (pd_int)) (pd_var 3))))) (pssd_one (psd_app (K := K) (i := 1) (pd_tup (pdd_cons (pd_var 2) (pdd_cons (pd_var 3) pdd_nil))) (pv 1))) (pssd_nil)))) (pssd_frz (i := 1) (pssd_one (psd_ret (pd_tup (pdd_cons (pd_len (K := K) T.n_len (pdd_cons (pd_var 0) pdd_nil)) (pdd_cons (pd_tuple (K := K) T.n_tuple (pdd_cons (pd_var 1) pdd_nil)) pdd_nil)))))))
    exact ⟨_, q.ps, q.ss⟩
abbrev s_to_list : Stmt := top 21
omit T TK in
theorem sc_to_list : FnScope ["line", "made", "ends", "place", "value", "end"] ["line"] (defScope s_to_list) := ⟨rfl, rfl, rfl, by decide +kernel, rfl, by decide +kernel, by decide +kernel⟩
theorem ok_to_list  {f : Addr} {fd : FuncData} (F : Fun K "to_list" "to_list" s_to_list f fd) : FnOk P w K mg base (L2.CX P w) 1 f fd ["line"] (spG (gg K C ca) 1 f_to_list) :=
  fn_body (g := gg K C ca) (N := ["line", "made", "ends", "place", "value", "end"]) F sc_to_list rfl fun cdv A outer s H E hr => by
    have tk : L2.Takes (cxOf (L2.CX P w) P w K mg base ["line", "made", "ends", "place", "value", "end"] "to_list" (defScope s_to_list) f cdv A outer s H E) (fun cls d _ H => E cls d H) := L2.takes_of rfl rfl rfl rfl
    have px : ∀ σ, PassesAt (L2.CX P w) (cxOf (L2.CX P w) P w K mg base ["line", "made", "ends", "place", "value", "end"] "to_list" (defScope s_to_list) f cdv A outer s H E) σ ((fun _ => E : EX) σ) := fun σ => passAt tk σ
    have q : PSsD (cxOf (L2.CX P w) P w K mg base ["line", "made", "ends", "place", "value", "end"] "to_list" (defScope s_to_list) f cdv A outer s H E) (gg K C ca) (fun _ => E) (defBody s_to_list) _ b_to_list := pssd_cons (psd_ownL (i := 1) pdd_nil sc_to_list.nd) (pssd_cons (psd_asg (pd_add (K := K) (pd_lc (own := [("place", 3), ("value", 4)]) sc_to_list.nd (pid_tup (K := K) (pd_sl (K := K) (pd_ix (K := K) (pd_var 0) (pd_int)) (pod_some (pd_int)) pod_none)) (fun _ _ _ _ _ => by exact (pgd_tup (K := K) (pgsd_cons (pgd_name 3 sc_to_list.nd) (pgsd_cons (pgd_name 4 sc_to_list.nd) pgsd_nil)))) (fun _ _ _ _ _ => by exact ptsd_nil) (fun _ _ _ _ _ => by exact (pd_var 3)) (blkOk_by (own := [("place", 3), ("value", 4)]) (N := ["line", "made", "ends", "place", "value", "end"]) (sc := defScope s_to_list) (by decide +kernel))) (pd_lst (pdd_cons (pd_ix (K := K) (pd_var 0) (pd_int)) pdd_nil))) (pgd_name 2 sc_to_list.nd)) (pssd_cons (psd_for (passes_of rfl) (pid_zip (K := K) T.n_zip (pdd_cons (pd_ix (K := K) (pd_var 0) (pd_int)) (pdd_cons (pd_var 2) pdd_nil))) (pgd_tup (K := K) (pgsd_cons (pgd_tup (K := K) (pgsd_cons (pgd_name 3 sc_to_list.nd) (pgsd_cons (pgd_name 4 sc_to_list.nd) pgsd_nil))) (pgsd_cons (pgd_name 5 sc_to_list.nd) pgsd_nil))) (pssd_one (psd_ext (K := K) (i := 1) (pd_mul (pd_lst (pdd_cons (pd_var 4) pdd_nil)) (pd_sub (pd_var 5) (pd_var 3))) (pv 1)))) (pssd_frz (i := 1) (pssd_one (psd_ret (pd_var 1))))))
    exact ⟨_, q.ps, q.ss⟩
abbrev s_checked : Stmt := top 22
omit T TK in
theorem sc_checked : FnScope ["line", "step"] ["line"] (defScope s_checked) := ⟨rfl, rfl, rfl, by decide +kernel, rfl, by decide +kernel, by decide +kernel⟩
theorem ok_checked (c_is_value : Cl P w K mg base (gg K C ca) 2 1 "is_value" f_is_value) {f : Addr} {fd : FuncData} (F : Fun K "checked" "checked" s_checked f fd) : FnOk P w K mg base (L2.CX P w) 3 f fd ["line"] (spG (gg K C ca) 1 f_checked) :=
  fn_body (g := gg K C ca) (N := ["line", "step"]) F sc_checked rfl fun cdv A outer s H E hr => by
    have tk : L2.Takes (cxOf (L2.CX P w) P w K mg base ["line", "step"] "checked" (defScope s_checked) f cdv A outer s H E) (fun cls d _ H => E cls d H) := L2.takes_of rfl rfl rfl rfl
    have px : ∀ σ, PassesAt (L2.CX P w) (cxOf (L2.CX P w) P w K mg base ["line", "step"] "checked" (defScope s_checked) f cdv A outer s H E) σ ((fun _ => E : EX) σ) := fun σ => passAt tk σ
    have q : PSsD (cxOf (L2.CX P w) P w K mg base ["line", "step"] "checked" (defScope s_checked) f cdv A outer s H E) (gg K C ca) (fun _ => E) (defBody s_checked) _ b_checked := pssd_cons (psd_if (ptd_not (ptd_val (pd_all (K := K) T.n_all (pdd_cons (pd_lc (own := [("step", 1)]) sc_checked.nd (pid_tup (K := K) (pd_ix (K := K) (pd_var 0) (pd_int))) (fun _ _ _ _ _ => by exact (pgd_name 1 sc_checked.nd)) (fun _ _ _ _ _ => by exact ptsd_nil) (fun _ _ _ _ _ => by exact (pd_call (K := K) c_is_value hr pxE0 (pad_cons (pd_ix (K := K) (pd_var 1) (pd_int)) pad_nil))) (blkOk_by (own := [("step", 1)]) (N := ["line", "step"]) (sc := defScope s_checked) (by decide +kernel))) pdd_nil)))) (pssd_one (psd_raise T.e_TooGreat rfl tk)) (pssd_nil)) (pssd_one (psd_ret (pd_var 0)))
    exact ⟨_, q.ps, q.ss⟩
abbrev s_Track_init : Stmt := inCls 24 0
omit T TK in
theorem sc_Track_init : FnScope ["self", "long", "value"] ["self", "long", "value"] (defScope s_Track_init) := ⟨rfl, rfl, rfl, by decide +kernel, rfl, by decide +kernel, by decide +kernel⟩
theorem ok_Track_init (c_is_whole : Cl P w K mg base (gg K C ca) 1 3 "is_whole" f_is_whole) (c_need_value : Cl P w K mg base (gg K C ca) 3 1 "need_value" f_need_value) {f : Addr} {fd : FuncData} (F : Fun K "__init__" "Track.__init__" s_Track_init f fd) : FnOk P w K mg base (L2.CX P w) 4 f fd ["self", "long", "value"] (spG (gg K C ca) 3 f_Track_init) :=
  fn_body (g := gg K C ca) (N := ["self", "long", "value"]) F sc_Track_init rfl fun cdv A outer s H E hr => by
    have tk : L2.Takes (cxOf (L2.CX P w) P w K mg base ["self", "long", "value"] "Track.__init__" (defScope s_Track_init) f cdv A outer s H E) (fun cls d _ H => E cls d H) := L2.takes_of rfl rfl rfl rfl
    have px : ∀ σ, PassesAt (L2.CX P w) (cxOf (L2.CX P w) P w K mg base ["self", "long", "value"] "Track.__init__" (defScope s_Track_init) f cdv A outer s H E) σ ((fun _ => E : EX) σ) := fun σ => passAt tk σ
    have q : PSsD (cxOf (L2.CX P w) P w K mg base ["self", "long", "value"] "Track.__init__" (defScope s_Track_init) f cdv A outer s H E) (gg K C ca) (fun _ => E) (defBody s_Track_init) _ b_Track_init := pssd_cons (psd_if (ptd_not (ptd_val (pd_call (K := K) c_is_whole hr px (pad_cons (pd_var 1) (pad_cons (pd_int) (pad_cons (pd_glob T.g_LONG) pad_nil)))))) (pssd_one (psd_raise T.e_NoPlace rfl tk)) (pssd_nil)) (pssd_cons (psd_drop (pd_call (K := K) c_need_value hr px (pad_cons (pd_var 2) pad_nil))) (pssd_cons (psd_here (K := K) (i := 0) TK (pd_tup (pdd_cons (pd_var 1) (pdd_cons (pd_tup (pdd_cons (pd_tup (pdd_cons (pd_int) (pdd_cons (pd_var 2) pdd_nil))) pdd_nil)) pdd_nil))) (pv 0)) (pssd_one (psd_past0 (K := K) (i := 0) TK (pv 0)))))
    exact ⟨_, q.ps, q.ss⟩
abbrev s_Track_line : Stmt := inCls 24 1
omit T TK in
theorem sc_Track_line : FnScope ["self"] ["self"] (defScope s_Track_line) := ⟨rfl, rfl, rfl, by decide +kernel, rfl, by decide +kernel, by decide +kernel⟩
theorem ok_Track_line  {f : Addr} {fd : FuncData} (F : Fun K "line" "Track.line" s_Track_line f fd) : FnOk P w K mg base (L2.CX P w) 1 f fd ["self"] (spG (gg K C ca) 1 f_Track_line) :=
  fn_body (g := gg K C ca) (N := ["self"]) F sc_Track_line rfl fun cdv A outer s H E hr => by
    have tk : L2.Takes (cxOf (L2.CX P w) P w K mg base ["self"] "Track.line" (defScope s_Track_line) f cdv A outer s H E) (fun cls d _ H => E cls d H) := L2.takes_of rfl rfl rfl rfl
    have px : ∀ σ, PassesAt (L2.CX P w) (cxOf (L2.CX P w) P w K mg base ["self"] "Track.line" (defScope s_Track_line) f cdv A outer s H E) σ ((fun _ => E : EX) σ) := fun σ => passAt tk σ
    have q : PSsD (cxOf (L2.CX P w) P w K mg base ["self"] "Track.line" (defScope s_Track_line) f cdv A outer s H E) (gg K C ca) (fun _ => E) (defBody s_Track_line) _ b_Track_line := pssd_one (psd_ret (pd_here (K := K) (i := 0) TK (pv 0)))
    exact ⟨_, q.ps, q.ss⟩
abbrev s_new_value : Stmt := top 25
omit T TK in
theorem sc_new_value : FnScope ["word", "old", "value"] ["word", "old", "value"] (defScope s_new_value) := ⟨rfl, rfl, rfl, by decide +kernel, rfl, by decide +kernel, by decide +kernel⟩
theorem ok_new_value  {f : Addr} {fd : FuncData} (F : Fun K "new_value" "new_value" s_new_value f fd) : FnOk P w K mg base (L2.CX P w) 1 f fd ["word", "old", "value"] (spG (gg K C ca) 3 f_new_value) :=
  fn_body (g := gg K C ca) (N := ["word", "old", "value"]) F sc_new_value rfl fun cdv A outer s H E hr => by
    have tk : L2.Takes (cxOf (L2.CX P w) P w K mg base ["word", "old", "value"] "new_value" (defScope s_new_value) f cdv A outer s H E) (fun cls d _ H => E cls d H) := L2.takes_of rfl rfl rfl rfl
    have px : ∀ σ, PassesAt (L2.CX P w) (cxOf (L2.CX P w) P w K mg base ["word", "old", "value"] "new_value" (defScope s_new_value) f cdv A outer s H E) σ ((fun _ => E : EX) σ) := fun σ => passAt tk σ
    have q : PSsD (cxOf (L2.CX P w) P w K mg base ["word", "old", "value"] "new_value" (defScope s_new_value) f cdv A outer s H E) (gg K C ca) (fun _ => E) (defBody s_new_value) _ b_new_value := pssd_cons (psd_if (ptd_eq (K := K) hr.units (pd_var 0) (pd_str)) (pssd_one (psd_ret (pd_var 2))) (pssd_nil)) (pssd_cons (psd_if (ptd_eq (K := K) hr.units (pd_var 0) (pd_str)) (pssd_one (psd_ret (pd_add (K := K) (pd_var 1) (pd_var 2)))) (pssd_nil)) (pssd_cons (psd_if (ptd_eq (K := K) hr.units (pd_var 0) (pd_str)) (pssd_one (psd_ret (pd_max2 T.n_max (pdd_cons (pd_var 1) (pdd_cons (pd_var 2) pdd_nil))))) (pssd_nil)) (pssd_one (psd_ret (pd_min2 T.n_min (pdd_cons (pd_var 1) (pdd_cons (pd_var 2) pdd_nil)))))))
    exact ⟨_, q.ps, q.ss⟩
abbrev s_Track_change : Stmt := inCls 24 2
omit T TK in
theorem sc_Track_change : FnScope ["self", "word", "first", "last", "value", "values", "made", "place", "old", "new", "line"] ["self", "word", "first", "last", "value"] (defScope s_Track_change) := ⟨rfl, rfl, rfl, by decide +kernel, rfl, by decide +kernel, by decide +kernel⟩
theorem ok_Track_change (c_need_stretch : Cl P w K mg base (gg K C ca) 2 3 "need_stretch" f_need_stretch) (c_need_value : Cl P w K mg base (gg K C ca) 3 1 "need_value" f_need_value) (c_to_list : Cl P w K mg base (gg K C ca) 1 1 "to_list" f_to_list) (c_new_value : Cl P w K mg base (gg K C ca) 1 3 "new_value" f_new_value) (c_checked : Cl P w K mg base (gg K C ca) 3 1 "checked" f_checked) (c_from_list : Cl P w K mg base (gg K C ca) 1 1 "from_list" f_from_list) {f : Addr} {fd : FuncData} (F : Fun K "change" "Track.change" s_Track_change f fd) : FnOk P w K mg base (L2.CX P w) 4 f fd ["self", "word", "first", "last", "value"] (spG (gg K C ca) 5 f_Track_change) :=
  fn_body (g := gg K C ca) (N := ["self", "word", "first", "last", "value", "values", "made", "place", "old", "new", "line"]) F sc_Track_change rfl fun cdv A outer s H E hr => by
    have tk : L2.Takes (cxOf (L2.CX P w) P w K mg base ["self", "word", "first", "last", "value", "values", "made", "place", "old", "new", "line"] "Track.change" (defScope s_Track_change) f cdv A outer s H E) (fun cls d _ H => E cls d H) := L2.takes_of rfl rfl rfl rfl
    have px : ∀ σ, PassesAt (L2.CX P w) (cxOf (L2.CX P w) P w K mg base ["self", "word", "first", "last", "value", "values", "made", "place", "old", "new", "line"] "Track.change" (defScope s_Track_change) f cdv A outer s H E) σ ((fun _ => E : EX) σ) := fun σ => passAt tk σ
    have q : PSsD (cxOf (L2.CX P w) P w K mg base ["self", "word", "first", "last", "value", "values", "made", "place", "old", "new", "line"] "Track.change" (defScope s_Track_change) f cdv A outer s H E) (gg K C ca) (fun _ => E) (defBody s_Track_change) _ b_Track_change := pssd_cons (psd_drop (pd_call (K := K) c_need_stretch hr px (pad_cons (pd_here (K := K) (i := 0) TK (pv 0)) (pad_cons (pd_var 2) (pad_cons (pd_var 3) pad_nil))))) (pssd_cons (psd_drop (pd_call (K := K) c_need_value hr px (pad_cons (pd_var 4) pad_nil))) (pssd_cons (psd_asg (pd_call (K := K) c_to_list hr px (pad_cons (pd_here (K := K) (i := 0) TK (pv 0)) pad_nil)) (pgd_name 5 sc_Track_change.nd)) (pssd_cons (psd_ownL (i := 6) pdd_nil sc_Track_change.nd) (pssd_cons (psd_for (passes_of rfl) (pid_enum (K := K) T.n_enumerate (pdd_cons (pd_var 5) pdd_nil)) (pgd_tup (K := K) (pgsd_cons (pgd_name 7 sc_Track_change.nd) (pgsd_cons (pgd_name 8 sc_Track_change.nd) pgsd_nil))) (pssd_cons (psd_asg (pd_var 8) (pgd_name 9 sc_Track_change.nd)) (pssd_cons (psd_if (ptd_leLe (pd_var 2) (pd_var 7) (pd_var 3)) (pssd_one (psd_asg (pd_call (K := K) c_new_value hr px (pad_cons (pd_var 1) (pad_cons (pd_var 8) (pad_cons (pd_var 4) pad_nil)))) (pgd_name 9 sc_Track_change.nd))) (pssd_nil)) (pssd_one (psd_app (K := K) (i := 6) (pd_var 9) (pv 6)))))) (pssd_frz (i := 6) (pssd_cons (psd_asg (pd_call (K := K) c_checked hr px (pad_cons (pd_call (K := K) c_from_list hr px (pad_cons (pd_var 6) pad_nil)) pad_nil)) (pgd_name 10 sc_Track_change.nd)) (pssd_cons (psd_push (K := K) (i := 0) TK (pv 0) (pv 0)) (pssd_cons (psd_here (K := K) (i := 0) TK (pd_var 10) (pv 0)) (pssd_one (psd_ret (pd_len (K := K) T.n_len (pdd_cons (pd_lc (own := [("old", 8), ("new", 9)]) sc_Track_change.nd (pid_zip (K := K) T.n_zip (pdd_cons (pd_var 5) (pdd_cons (pd_var 6) pdd_nil))) (fun _ _ _ _ _ => by exact (pgd_tup (K := K) (pgsd_cons (pgd_name 8 sc_Track_change.nd) (pgsd_cons (pgd_name 9 sc_Track_change.nd) pgsd_nil)))) (fun _ _ _ _ _ => by exact (ptsd_one (ptd_ne (K := K) hr.units (pd_var 8) (pd_var 9)))) (fun _ _ _ _ _ => by exact (pd_int)) (blkOk_by (own := [("old", 8), ("new", 9)]) (N := ["self", "word", "first", "last", "value", "values", "made", "place", "old", "new", "line"]) (sc := defScope s_Track_change) (by decide +kernel))) pdd_nil))))))))))))
    exact ⟨_, q.ps, q.ss⟩
abbrev s_Track_put : Stmt := inCls 24 3
omit T TK in
theorem sc_Track_put : FnScope ["self", "first", "last", "value"] ["self", "first", "last", "value"] (defScope s_Track_put) := ⟨rfl, rfl, rfl, by decide +kernel, rfl, by decide +kernel, by decide +kernel⟩
theorem ok_Track_put (c_Track_change : ClM P w K mg base (gg K C ca) 4 5 "change" f_Track_change) {f : Addr} {fd : FuncData} (F : Fun K "put" "Track.put" s_Track_put f fd) : FnOk P w K mg base (L2.CX P w) 5 f fd ["self", "first", "last", "value"] (spG (gg K C ca) 4 f_Track_put) :=
  fn_body (g := gg K C ca) (N := ["self", "first", "last", "value"]) F sc_Track_put rfl fun cdv A outer s H E hr => by
    have tk : L2.Takes (cxOf (L2.CX P w) P w K mg base ["self", "first", "last", "value"] "Track.put" (defScope s_Track_put) f cdv A outer s H E) (fun cls d _ H => E cls d H) := L2.takes_of rfl rfl rfl rfl
    have px : ∀ σ, PassesAt (L2.CX P w) (cxOf (L2.CX P w) P w K mg base ["self", "first", "last", "value"] "Track.put" (defScope s_Track_put) f cdv A outer s H E) σ ((fun _ => E : EX) σ) := fun σ => passAt tk σ
    have q : PSsD (cxOf (L2.CX P w) P w K mg base ["self", "first", "last", "value"] "Track.put" (defScope s_Track_put) f cdv A outer s H E) (gg K C ca) (fun _ => E) (defBody s_Track_put) _ b_Track_put := pssd_one (psd_ret (pd_meth (K := K) (i := 0) TK c_Track_change hr px (pv 0) (pad_cons (pd_str) (pad_cons (pd_var 1) (pad_cons (pd_var 2) (pad_cons (pd_var 3) pad_nil))))))
    exact ⟨_, q.ps, q.ss⟩
abbrev s_Track_add : Stmt := inCls 24 4
omit T TK in
theorem sc_Track_add : FnScope ["self", "first", "last", "value"] ["self", "first", "last", "value"] (defScope s_Track_add) := ⟨rfl, rfl, rfl, by decide +kernel, rfl, by decide +kernel, by decide +kernel⟩
theorem ok_Track_add (c_Track_change : ClM P w K mg base (gg K C ca) 4 5 "change" f_Track_change) {f : Addr} {fd : FuncData} (F : Fun K "add" "Track.add" s_Track_add f fd) : FnOk P w K mg base (L2.CX P w) 5 f fd ["self", "first", "last", "value"] (spG (gg K C ca) 4 f_Track_add) :=
  fn_body (g := gg K C ca) (N := ["self", "first", "last", "value"]) F sc_Track_add rfl fun cdv A outer s H E hr => by
    have tk : L2.Takes (cxOf (L2.CX P w) P w K mg base ["self", "first", "last", "value"] "Track.add" (defScope s_Track_add) f cdv A outer s H E) (fun cls d _ H => E cls d H) := L2.takes_of rfl rfl rfl rfl
    have px : ∀ σ, PassesAt (L2.CX P w) (cxOf (L2.CX P w) P w K mg base ["self", "first", "last", "value"] "Track.add" (defScope s_Track_add) f cdv A outer s H E) σ ((fun _ => E : EX) σ) := fun σ => passAt tk σ
    have q : PSsD (cxOf (L2.CX P w) P w K mg base ["self", "first", "last", "value"] "Track.add" (defScope s_Track_add) f cdv A outer s H E) (gg K C ca) (fun _ => E) (defBody s_Track_add) _ b_Track_add := pssd_one (psd_ret (pd_meth (K := K) (i := 0) TK c_Track_change hr px (pv 0) (pad_cons (pd_str) (pad_cons (pd_var 1) (pad_cons (pd_var 2) (pad_cons (pd_var 3) pad_nil))))))
    exact ⟨_, q.ps, q.ss⟩
abbrev s_Track_lift : Stmt := inCls 24 5
omit T TK in
theorem sc_Track_lift : FnScope ["self", "first", "last", "value"] ["self", "first", "last", "value"] (defScope s_Track_lift) := ⟨rfl, rfl, rfl, by decide +kernel, rfl, by decide +kernel, by decide +kernel⟩
theorem ok_Track_lift (c_Track_change : ClM P w K mg base (gg K C ca) 4 5 "change" f_Track_change) {f : Addr} {fd : FuncData} (F : Fun K "lift" "Track.lift" s_Track_lift f fd) : FnOk P w K mg base (L2.CX P w) 5 f fd ["self", "first", "last", "value"] (spG (gg K C ca) 4 f_Track_lift) :=
  fn_body (g := gg K C ca) (N := ["self", "first", "last", "value"]) F sc_Track_lift rfl fun cdv A outer s H E hr => by
    have tk : L2.Takes (cxOf (L2.CX P w) P w K mg base ["self", "first", "last", "value"] "Track.lift" (defScope s_Track_lift) f cdv A outer s H E) (fun cls d _ H => E cls d H) := L2.takes_of rfl rfl rfl rfl
    have px : ∀ σ, PassesAt (L2.CX P w) (cxOf (L2.CX P w) P w K mg base ["self", "first", "last", "value"] "Track.lift" (defScope s_Track_lift) f cdv A outer s H E) σ ((fun _ => E : EX) σ) := fun σ => passAt tk σ
    have q : PSsD (cxOf (L2.CX P w) P w K mg base ["self", "first", "last", "value"] "Track.lift" (defScope s_Track_lift) f cdv A outer s H E) (gg K C ca) (fun _ => E) (defBody s_Track_lift) _ b_Track_lift := pssd_one (psd_ret (pd_meth (K := K) (i := 0) TK c_Track_change hr px (pv 0) (pad_cons (pd_str) (pad_cons (pd_var 1) (pad_cons (pd_var 2) (pad_cons (pd_var 3) pad_nil))))))
    exact ⟨_, q.ps, q.ss⟩
abbrev s_Track_press : Stmt := inCls 24 6
omit T TK in
theorem sc_Track_press : FnScope ["self", "first", "last", "value"] ["self", "first", "last", "value"] (defScope s_Track_press) := ⟨rfl, rfl, rfl, by decide +kernel, rfl, by decide +kernel, by decide +kernel⟩
theorem ok_Track_press (c_Track_change : ClM P w K mg base (gg K C ca) 4 5 "change" f_Track_change) {f : Addr} {fd : FuncData} (F : Fun K "press" "Track.press" s_Track_press f fd) : FnOk P w K mg base (L2.CX P w) 5 f fd ["self", "first", "last", "value"] (spG (gg K C ca) 4 f_Track_press) :=
  fn_body (g := gg K C ca) (N := ["self", "first", "last", "value"]) F sc_Track_press rfl fun cdv A outer s H E hr => by
    have tk : L2.Takes (cxOf (L2.CX P w) P w K mg base ["self", "first", "last", "value"] "Track.press" (defScope s_Track_press) f cdv A outer s H E) (fun cls d _ H => E cls d H) := L2.takes_of rfl rfl rfl rfl
    have px : ∀ σ, PassesAt (L2.CX P w) (cxOf (L2.CX P w) P w K mg base ["self", "first", "last", "value"] "Track.press" (defScope s_Track_press) f cdv A outer s H E) σ ((fun _ => E : EX) σ) := fun σ => passAt tk σ
    have q : PSsD (cxOf (L2.CX P w) P w K mg base ["self", "first", "last", "value"] "Track.press" (defScope s_Track_press) f cdv A outer s H E) (gg K C ca) (fun _ => E) (defBody s_Track_press) _ b_Track_press := pssd_one (psd_ret (pd_meth (K := K) (i := 0) TK c_Track_change hr px (pv 0) (pad_cons (pd_str) (pad_cons (pd_var 1) (pad_cons (pd_var 2) (pad_cons (pd_var 3) pad_nil))))))
    exact ⟨_, q.ps, q.ss⟩
abbrev s_Track_undo : Stmt := inCls 24 7
omit T TK in
theorem sc_Track_undo : FnScope ["self"] ["self"] (defScope s_Track_undo) := ⟨rfl, rfl, rfl, by decide +kernel, rfl, by decide +kernel, by decide +kernel⟩
theorem ok_Track_undo  {f : Addr} {fd : FuncData} (F : Fun K "undo" "Track.undo" s_Track_undo f fd) : FnOk P w K mg base (L2.CX P w) 1 f fd ["self"] (spG (gg K C ca) 1 f_Track_undo) :=
  fn_body (g := gg K C ca) (N := ["self"]) F sc_Track_undo rfl fun cdv A outer s H E hr => by
    have tk : L2.Takes (cxOf (L2.CX P w) P w K mg base ["self"] "Track.undo" (defScope s_Track_undo) f cdv A outer s H E) (fun cls d _ H => E cls d H) := L2.takes_of rfl rfl rfl rfl
    have px : ∀ σ, PassesAt (L2.CX P w) (cxOf (L2.CX P w) P w K mg base ["self"] "Track.undo" (defScope s_Track_undo) f cdv A outer s H E) σ ((fun _ => E : EX) σ) := fun σ => passAt tk σ
    have q : PSsD (cxOf (L2.CX P w) P w K mg base ["self"] "Track.undo" (defScope s_Track_undo) f cdv A outer s H E) (gg K C ca) (fun _ => E) (defBody s_Track_undo) _ b_Track_undo := pssd_cons (psd_if (ptd_past0 (K := K) (i := 0) TK hr.units (pv 0)) (pssd_one (psd_raise T.e_NoStep rfl tk)) (pssd_nil)) (pssd_one (psd_popH (K := K) (i := 0) TK (pv 0) (pv 0)))
    exact ⟨_, q.ps, q.ss⟩
abbrev s__law_cell_at : Stmt := top 27
omit T TK in
theorem sc__law_cell_at : FnScope ["_law_script", "_law_k"] ["_law_script", "_law_k"] (defScope s__law_cell_at) := ⟨rfl, rfl, rfl, by decide +kernel, rfl, by decide +kernel, by decide +kernel⟩
theorem ok__law_cell_at  {f : Addr} {fd : FuncData} (F : Fun K "_law_cell_at" "_law_cell_at" s__law_cell_at f fd) : FnOk P w K mg base (L2.CX P w) 1 f fd ["_law_script", "_law_k"] (spG (gg K C ca) 2 f__law_cell_at) :=
  fn_body (g := gg K C ca) (N := ["_law_script", "_law_k"]) F sc__law_cell_at rfl fun cdv A outer s H E hr => by
    have tk : L2.Takes (cxOf (L2.CX P w) P w K mg base ["_law_script", "_law_k"] "_law_cell_at" (defScope s__law_cell_at) f cdv A outer s H E) (fun cls d _ H => E cls d H) := L2.takes_of rfl rfl rfl rfl
    have px : ∀ σ, PassesAt (L2.CX P w) (cxOf (L2.CX P w) P w K mg base ["_law_script", "_law_k"] "_law_cell_at" (defScope s__law_cell_at) f cdv A outer s H E) σ ((fun _ => E : EX) σ) := fun σ => passAt tk σ
    have q : PSsD (cxOf (L2.CX P w) P w K mg base ["_law_script", "_law_k"] "_law_cell_at" (defScope s__law_cell_at) f cdv A outer s H E) (gg K C ca) (fun _ => E) (defBody s__law_cell_at) _ b__law_cell_at := pssd_cons (psd_if (ptd_lt (pd_var 1) (pd_plen (K := K) (i := 0) T.n_len (pv 0))) (pssd_one (psd_ret (pd_six (K := K) (i := 0) (pd_var 1) (pv 0)))) (pssd_nil)) (pssd_cons (psd_if (ptd_seq (K := K) (i := 0) hr.units (pd_lst pdd_nil) (pv 0)) (pssd_one (psd_ret (pd_int))) (pssd_nil)) (pssd_one (psd_ret (pd_add (K := K) (pd_mul (pd_six (K := K) (i := 0) (pd_mod (pd_var 1) (pd_plen (K := K) (i := 0) T.n_len (pv 0))) (pv 0)) (pd_int)) (pd_var 1)))))
    exact ⟨_, q.ps, q.ss⟩
abbrev s__law_mixed : Stmt := top 28
omit T TK in
theorem sc__law_mixed : FnScope ["_law_script", "_law_k", "_law_many", "_law_drawn"] ["_law_script", "_law_k", "_law_many"] (defScope s__law_mixed) := ⟨rfl, rfl, rfl, by decide +kernel, rfl, by decide +kernel, by decide +kernel⟩
theorem ok__law_mixed (c__law_cell_at : Cl P w K mg base (gg K C ca) 1 2 "_law_cell_at" f__law_cell_at) {f : Addr} {fd : FuncData} (F : Fun K "_law_mixed" "_law_mixed" s__law_mixed f fd) : FnOk P w K mg base (L2.CX P w) 2 f fd ["_law_script", "_law_k", "_law_many"] (spG (gg K C ca) 3 f__law_mixed) :=
  fn_body (g := gg K C ca) (N := ["_law_script", "_law_k", "_law_many", "_law_drawn"]) F sc__law_mixed rfl fun cdv A outer s H E hr => by
    have tk : L2.Takes (cxOf (L2.CX P w) P w K mg base ["_law_script", "_law_k", "_law_many", "_law_drawn"] "_law_mixed" (defScope s__law_mixed) f cdv A outer s H E) (fun cls d _ H => E cls d H) := L2.takes_of rfl rfl rfl rfl
    have px : ∀ σ, PassesAt (L2.CX P w) (cxOf (L2.CX P w) P w K mg base ["_law_script", "_law_k", "_law_many", "_law_drawn"] "_law_mixed" (defScope s__law_mixed) f cdv A outer s H E) σ ((fun _ => E : EX) σ) := fun σ => passAt tk σ
    have q : PSsD (cxOf (L2.CX P w) P w K mg base ["_law_script", "_law_k", "_law_many", "_law_drawn"] "_law_mixed" (defScope s__law_mixed) f cdv A outer s H E) (gg K C ca) (fun _ => E) (defBody s__law_mixed) _ b__law_mixed := pssd_cons (psd_asg (pd_mod (pd_mul (pd_add (K := K) (pd_add (K := K) (pd_call (K := K) c__law_cell_at hr px (pad_pin (i := 0) (pad_cons (pd_var 1) pad_nil))) (pd_mul (pd_int) (pd_var 1))) (pd_int)) (pd_int)) (pd_int)) (pgd_name 3 sc__law_mixed.nd)) (pssd_one (psd_ret (pd_mod (pd_mod (pd_add (K := K) (pd_add (K := K) (pd_mul (pd_var 3) (pd_var 3)) (pd_mul (pd_int) (pd_var 3))) (pd_var 1)) (pd_int)) (pd_var 2))))
    exact ⟨_, q.ps, q.ss⟩
abbrev s__law_draw : Stmt := top 29
omit T TK in
theorem sc__law_draw : FnScope ["_law_script", "_law_town", "_law_many"] ["_law_script", "_law_town", "_law_many"] (defScope s__law_draw) := ⟨rfl, rfl, rfl, by decide +kernel, rfl, by decide +kernel, by decide +kernel⟩
theorem ok__law_draw (c__law_mixed : Cl P w K mg base (gg K C ca) 2 3 "_law_mixed" f__law_mixed) {f : Addr} {fd : FuncData} (F : Fun K "_law_draw" "_law_draw" s__law_draw f fd) : FnOk P w K mg base (L2.CX P w) 3 f fd ["_law_script", "_law_town", "_law_many"] (spG (gg K C ca) 3 f__law_draw) :=
  fn_body (g := gg K C ca) (N := ["_law_script", "_law_town", "_law_many"]) F sc__law_draw rfl fun cdv A outer s H E hr => by
    have tk : L2.Takes (cxOf (L2.CX P w) P w K mg base ["_law_script", "_law_town", "_law_many"] "_law_draw" (defScope s__law_draw) f cdv A outer s H E) (fun cls d _ H => E cls d H) := L2.takes_of rfl rfl rfl rfl
    have px : ∀ σ, PassesAt (L2.CX P w) (cxOf (L2.CX P w) P w K mg base ["_law_script", "_law_town", "_law_many"] "_law_draw" (defScope s__law_draw) f cdv A outer s H E) σ ((fun _ => E : EX) σ) := fun σ => passAt tk σ
    have q : PSsD (cxOf (L2.CX P w) P w K mg base ["_law_script", "_law_town", "_law_many"] "_law_draw" (defScope s__law_draw) f cdv A outer s H E) (gg K C ca) (fun _ => E) (defBody s__law_draw) _ b__law_draw := pssd_cons (psd_appT (K := K) (i := 1) (pv 1)) (pssd_one (psd_ret (pd_call (K := K) c__law_mixed hr px (pad_pin (i := 0) (pad_cons (pd_plen (K := K) (i := 1) T.n_len (pv 1)) (pad_cons (pd_var 2) pad_nil))))))
    exact ⟨_, q.ps, q.ss⟩
abbrev s__law_pick : Stmt := top 30
omit T TK in
theorem sc__law_pick : FnScope ["_law_script", "_law_town", "_law_some"] ["_law_script", "_law_town", "_law_some"] (defScope s__law_pick) := ⟨rfl, rfl, rfl, by decide +kernel, rfl, by decide +kernel, by decide +kernel⟩
theorem ok__law_pick (c__law_draw : Cl P w K mg base (gg K C ca) 3 3 "_law_draw" f__law_draw) {f : Addr} {fd : FuncData} (F : Fun K "_law_pick" "_law_pick" s__law_pick f fd) : FnOk P w K mg base (L2.CX P w) 4 f fd ["_law_script", "_law_town", "_law_some"] (spG (gg K C ca) 3 f__law_pick) :=
  fn_body (g := gg K C ca) (N := ["_law_script", "_law_town", "_law_some"]) F sc__law_pick rfl fun cdv A outer s H E hr => by
    have tk : L2.Takes (cxOf (L2.CX P w) P w K mg base ["_law_script", "_law_town", "_law_some"] "_law_pick" (defScope s__law_pick) f cdv A outer s H E) (fun cls d _ H => E cls d H) := L2.takes_of rfl rfl rfl rfl
    have px : ∀ σ, PassesAt (L2.CX P w) (cxOf (L2.CX P w) P w K mg base ["_law_script", "_law_town", "_law_some"] "_law_pick" (defScope s__law_pick) f cdv A outer s H E) σ ((fun _ => E : EX) σ) := fun σ => passAt tk σ
    have q : PSsD (cxOf (L2.CX P w) P w K mg base ["_law_script", "_law_town", "_law_some"] "_law_pick" (defScope s__law_pick) f cdv A outer s H E) (gg K C ca) (fun _ => E) (defBody s__law_pick) _ b__law_pick := pssd_one (psd_ret (pd_ix (K := K) (pd_var 2) (pd_call (K := K) c__law_draw hr px (pad_pin (i := 0) (pad_pin (i := 1) (pad_cons (pd_len (K := K) T.n_len (pdd_cons (pd_var 2) pdd_nil)) pad_nil))))))
    exact ⟨_, q.ps, q.ss⟩
abbrev s__law_line : Stmt := top 31
omit T TK in
theorem sc__law_line : FnScope ["_law_values", "_law_steps", "_law_place", "_law_worth"] ["_law_values"] (defScope s__law_line) := ⟨rfl, rfl, rfl, by decide +kernel, rfl, by decide +kernel, by decide +kernel⟩
theorem ok__law_line  {f : Addr} {fd : FuncData} (F : Fun K "_law_line" "_law_line" s__law_line f fd) : FnOk P w K mg base (L2.CX P w) 1 f fd ["_law_values"] (spG (gg K C ca) 1 f__law_line) :=
  fn_body (g := gg K C ca) (N := ["_law_values", "_law_steps", "_law_place", "_law_worth"]) F sc__law_line rfl fun cdv A outer s H E hr => by
    have tk : L2.Takes (cxOf (L2.CX P w) P w K mg base ["_law_values", "_law_steps", "_law_place", "_law_worth"] "_law_line" (defScope s__law_line) f cdv A outer s H E) (fun cls d _ H => E cls d H) := L2.takes_of rfl rfl rfl rfl
    have px : ∀ σ, PassesAt (L2.CX P w) (cxOf (L2.CX P w) P w K mg base ["_law_values", "_law_steps", "_law_place", "_law_worth"] "_law_line" (defScope s__law_line) f cdv A outer s H E) σ ((fun _ => E : EX) σ) := fun σ => passAt tk σ
    have q : PSsD (cxOf (L2.CX P w) P w K mg base ["_law_values", "_law_steps", "_law_place", "_law_worth"] "_law_line" (defScope s__law_line) f cdv A outer s H E) (gg K C ca) (fun _ => E) (defBody s__law_line) _ b__law_line := pssd_cons (psd_ownL (i := 1) pdd_nil sc__law_line.nd) (pssd_cons (psd_for (passes_of rfl) (pid_enum (K := K) T.n_enumerate (pdd_cons (pd_var 0) pdd_nil)) (pgd_tup (K := K) (pgsd_cons (pgd_name 2 sc__law_line.nd) (pgsd_cons (pgd_name 3 sc__law_line.nd) pgsd_nil))) (pssd_one (psd_if (ptd_w (pwd_or (ptd_eq (K := K) hr.units (pd_var 2) (pd_int)) (pwd_or1 (ptd_ne (K := K) hr.units (pd_ix (K := K) (pd_var 0) (pd_sub (pd_var 2) (pd_int))) (pd_var 3))))) (pssd_one (psd_app (K := K) (i := 1) (pd_tup (pdd_cons (pd_var 2) (pdd_cons (pd_var 3) pdd_nil))) (pv 1))) (pssd_nil)))) (pssd_frz (i := 1) (pssd_one (psd_ret (pd_tup (pdd_cons (pd_len (K := K) T.n_len (pdd_cons (pd_var 0) pdd_nil)) (pdd_cons (pd_tuple (K := K) T.n_tuple (pdd_cons (pd_var 1) pdd_nil)) pdd_nil)))))))
    exact ⟨_, q.ps, q.ss⟩
abbrev s__law_deed : Stmt := top 32
omit T TK in
theorem sc__law_deed : FnScope ["_law_script", "_law_town", "_law_long", "_law_word", "_law_first", "_law_last"] ["_law_script", "_law_town", "_law_long"] (defScope s__law_deed) := ⟨rfl, rfl, rfl, by decide +kernel, rfl, by decide +kernel, by decide +kernel⟩
theorem ok__law_deed (c__law_pick : Cl P w K mg base (gg K C ca) 4 3 "_law_pick" f__law_pick) (c__law_draw : Cl P w K mg base (gg K C ca) 3 3 "_law_draw" f__law_draw) {f : Addr} {fd : FuncData} (F : Fun K "_law_deed" "_law_deed" s__law_deed f fd) : FnOk P w K mg base (L2.CX P w) 5 f fd ["_law_script", "_law_town", "_law_long"] (spG (gg K C ca) 3 f__law_deed) :=
  fn_body (g := gg K C ca) (N := ["_law_script", "_law_town", "_law_long", "_law_word", "_law_first", "_law_last"]) F sc__law_deed rfl fun cdv A outer s H E hr => by
    have tk : L2.Takes (cxOf (L2.CX P w) P w K mg base ["_law_script", "_law_town", "_law_long", "_law_word", "_law_first", "_law_last"] "_law_deed" (defScope s__law_deed) f cdv A outer s H E) (fun cls d _ H => E cls d H) := L2.takes_of rfl rfl rfl rfl
    have px : ∀ σ, PassesAt (L2.CX P w) (cxOf (L2.CX P w) P w K mg base ["_law_script", "_law_town", "_law_long", "_law_word", "_law_first", "_law_last"] "_law_deed" (defScope s__law_deed) f cdv A outer s H E) σ ((fun _ => E : EX) σ) := fun σ => passAt tk σ
    have q : PSsD (cxOf (L2.CX P w) P w K mg base ["_law_script", "_law_town", "_law_long", "_law_word", "_law_first", "_law_last"] "_law_deed" (defScope s__law_deed) f cdv A outer s H E) (gg K C ca) (fun _ => E) (defBody s__law_deed) _ b__law_deed := pssd_cons (psd_asg (pd_call (K := K) c__law_pick hr px (pad_pin (i := 0) (pad_pin (i := 1) (pad_cons (pd_lst (pdd_cons (pd_str) (pdd_cons (pd_str) (pdd_cons (pd_str) (pdd_cons (pd_str) (pdd_cons (pd_str) pdd_nil)))))) pad_nil)))) (pgd_name 3 sc__law_deed.nd)) (pssd_cons (psd_if (ptd_eq (K := K) hr.units (pd_var 3) (pd_str)) (pssd_one (psd_ret (pd_tup (pdd_cons (pd_str) pdd_nil)))) (pssd_nil)) (pssd_cons (psd_asg (pd_call (K := K) c__law_draw hr px (pad_pin (i := 0) (pad_pin (i := 1) (pad_cons (pd_var 2) pad_nil)))) (pgd_name 4 sc__law_deed.nd)) (pssd_cons (psd_asg (pd_add (K := K) (pd_var 4) (pd_call (K := K) c__law_draw hr px (pad_pin (i := 0) (pad_pin (i := 1) (pad_cons (pd_sub (pd_var 2) (pd_var 4)) pad_nil))))) (pgd_name 5 sc__law_deed.nd)) (pssd_one (psd_ret (pd_tup (pdd_cons (pd_var 3) (pdd_cons (pd_var 4) (pdd_cons (pd_var 5) (pdd_cons (pd_sub (pd_call (K := K) c__law_draw hr px (pad_pin (i := 0) (pad_pin (i := 1) (pad_cons (pd_call (K := K) c__law_pick hr px (pad_pin (i := 0) (pad_pin (i := 1) (pad_cons (pd_lst (pdd_cons (pd_int) (pdd_cons (pd_int) (pdd_cons (pd_int) pdd_nil)))) pad_nil)))) pad_nil)))) (pd_int)) pdd_nil))))))))))
    exact ⟨_, q.ps, q.ss⟩
abbrev s__law_own : Stmt := top 33
omit T TK in
theorem sc__law_own : FnScope ["_law_rows", "_law_deed_here", "_law_word", "_law_first", "_law_last", "_law_worth", "_law_made", "_law_place", "_law_old", "_law_one", "_law_other"] ["_law_rows", "_law_deed_here"] (defScope s__law_own) := ⟨rfl, rfl, rfl, by decide +kernel, rfl, by decide +kernel, by decide +kernel⟩
theorem ok__law_own  {f : Addr} {fd : FuncData} (F : Fun K "_law_own" "_law_own" s__law_own f fd) : FnOk P w K mg base (L2.CX P w) 1 f fd ["_law_rows", "_law_deed_here"] (spG (gg K C ca) 2 f__law_own) :=
  fn_body (g := gg K C ca) (N := ["_law_rows", "_law_deed_here", "_law_word", "_law_first", "_law_last", "_law_worth", "_law_made", "_law_place", "_law_old", "_law_one", "_law_other"]) F sc__law_own rfl fun cdv A outer s H E hr => by
    have tk : L2.Takes (cxOf (L2.CX P w) P w K mg base ["_law_rows", "_law_deed_here", "_law_word", "_law_first", "_law_last", "_law_worth", "_law_made", "_law_place", "_law_old", "_law_one", "_law_other"] "_law_own" (defScope s__law_own) f cdv A outer s H E) (fun cls d _ H => E cls d H) := L2.takes_of rfl rfl rfl rfl
    have px : ∀ σ, PassesAt (L2.CX P w) (cxOf (L2.CX P w) P w K mg base ["_law_rows", "_law_deed_here", "_law_word", "_law_first", "_law_last", "_law_worth", "_law_made", "_law_place", "_law_old", "_law_one", "_law_other"] "_law_own" (defScope s__law_own) f cdv A outer s H E) σ ((fun _ => E : EX) σ) := fun σ => passAt tk σ
    have q : PSsD (cxOf (L2.CX P w) P w K mg base ["_law_rows", "_law_deed_here", "_law_word", "_law_first", "_law_last", "_law_worth", "_law_made", "_law_place", "_law_old", "_law_one", "_law_other"] "_law_own" (defScope s__law_own) f cdv A outer s H E) (gg K C ca) (fun _ => E) (defBody s__law_own) _ b__law_own := pssd_cons (psd_if (ptd_eq (K := K) hr.units (pd_ix (K := K) (pd_var 1) (pd_int)) (pd_str)) (pssd_cons (psd_if (ptd_eq (K := K) hr.units (pd_lenL (K := K) (i := 0) T.n_len (pv 0)) (pd_int)) (pssd_one (psd_ret (pd_tup (pdd_cons (pd_str) (pdd_cons (pd_int) pdd_nil))))) (pssd_nil)) (pssd_cons (psd_popL (K := K) (i := 0) (pv 0)) (pssd_one (psd_ret (pd_non))))) (pssd_nil)) (pssd_cons (psd_asg (pd_var 1) (pgd_tup (K := K) (pgsd_cons (pgd_name 2 sc__law_own.nd) (pgsd_cons (pgd_name 3 sc__law_own.nd) (pgsd_cons (pgd_name 4 sc__law_own.nd) (pgsd_cons (pgd_name 5 sc__law_own.nd) pgsd_nil)))))) (pssd_cons (psd_if (ptd_gt (pd_var 5) (pd_int)) (pssd_one (psd_ret (pd_tup (pdd_cons (pd_str) (pdd_cons (pd_int) pdd_nil))))) (pssd_nil)) (pssd_cons (psd_ownC (K := K) (i := 6) (pd_pix (K := K) (i := 0) (pd_neg (pd_int)) (pv 0)) T.n_list sc__law_own.nd) (pssd_cons (psd_for (passes_of rfl) (pid_rng2 T.n_range (pdd_cons (pd_var 3) (pdd_cons (pd_add (K := K) (pd_var 4) (pd_int)) pdd_nil))) (pgd_name 7 sc__law_own.nd) (pssd_cons (psd_asg (pd_oix (K := K) (i := 6) (pd_var 7) (pv 6)) (pgd_name 8 sc__law_own.nd)) (pssd_one (psd_setI (i := 6) (pd_ixD hr.units (pd_disp (pdk_cons (pd_var 5) (pdk_cons (pd_add (K := K) (pd_var 8) (pd_var 5)) (pdk_cons (pd_max2 T.n_max (pdd_cons (pd_var 8) (pdd_cons (pd_var 5) pdd_nil))) (pdk_cons (pd_min2 T.n_min (pdd_cons (pd_var 8) (pdd_cons (pd_var 5) pdd_nil))) pdk_nil))))) (pd_var 2)) (pd_var 7) (pv 6))))) (pssd_frz (i := 6) (pssd_cons (psd_if (ptd_w (pwd_or (ptd_gt (pd_maxL (K := K) T.n_max (pdd_cons (pd_var 6) pdd_nil)) (pd_int)) (pwd_or1 (ptd_lt (pd_minL (K := K) T.n_min (pdd_cons (pd_var 6) pdd_nil)) (pd_neg (pd_int)))))) (pssd_one (psd_ret (pd_tup (pdd_cons (pd_str) (pdd_cons (pd_int) pdd_nil))))) (pssd_nil)) (pssd_cons (psd_appL (K := K) (i := 0) (pd_var 6) (pv 0)) (pssd_one (psd_ret (pd_len (K := K) T.n_len (pdd_cons (pd_lc (own := [("_law_one", 9), ("_law_other", 10)]) sc__law_own.nd (pid_zip (K := K) T.n_zip (pdd_cons (pd_pix (K := K) (i := 0) (pd_neg (pd_int)) (pv 0)) (pdd_cons (pd_var 6) pdd_nil))) (fun _ _ _ _ _ => by exact (pgd_tup (K := K) (pgsd_cons (pgd_name 9 sc__law_own.nd) (pgsd_cons (pgd_name 10 sc__law_own.nd) pgsd_nil)))) (fun _ _ _ _ _ => by exact (ptsd_one (ptd_ne (K := K) hr.units (pd_var 9) (pd_var 10)))) (fun _ _ _ _ _ => by exact (pd_int)) (blkOk_by (own := [("_law_one", 9), ("_law_other", 10)]) (N := ["_law_rows", "_law_deed_here", "_law_word", "_law_first", "_law_last", "_law_worth", "_law_made", "_law_place", "_law_old", "_law_one", "_law_other"]) (sc := defScope s__law_own) (by decide +kernel))) pdd_nil)))))))))))
    exact ⟨_, q.ps, q.ss⟩
abbrev s__law_which : Stmt := top 34
omit T TK in
theorem sc__law_which : FnScope ["_law_e", "_law_own_here"] ["_law_e"] (defScope s__law_which) := ⟨rfl, rfl, rfl, by decide +kernel, rfl, by decide +kernel, by decide +kernel⟩
theorem ok__law_which {f : Addr} {fd : FuncData} (F : Fun K "_law_which" "_law_which" s__law_which f fd) : FnE P w K mg base 1 f fd ["_law_e"] (spE (gg K C ca) ((List.range 10).map ca) f__law_which) :=
  fn_bodyE (g := gg K C ca) (L := L) (es := ((List.range 10).map ca)) (N := ["_law_e", "_law_own_here"]) F sc__law_which rfl T.exw fun cdv A outer s H E p D n hr TE => by
    have hu : (A.deeper (envOfC "_law_which" (defScope s__law_which) s.heap.objs.size f cdv)).units + 64 < cLine := by have q := hr.un; omega
    have q : PSsD (L2H.cxH (L2.CX P w) P w K mg base ["_law_e", "_law_own_here"] "_law_which" (defScope s__law_which) f cdv A outer s H E p) ((gg K C ca).exn p.1 n) (fun _ => E) (defBody s__law_which) _ b__law_which := pssd_cons (psd_ownL (i := 1) (pdd_cons (pd_isE TE (by exact List.mem_cons_self) (c := 0) rfl T.w_NoLine T.n_isinstance (pv 0)) (pdd_cons (pd_isE TE (by exact List.mem_cons_self) (c := 1) rfl T.w_NoRows T.n_isinstance (pv 0)) (pdd_cons (pd_isE TE (by exact List.mem_cons_self) (c := 2) rfl T.w_NoPlace T.n_isinstance (pv 0)) (pdd_cons (pd_isE TE (by exact List.mem_cons_self) (c := 3) rfl T.w_NoValue T.n_isinstance (pv 0)) pdd_nil)))) sc__law_which.nd) (pssd_cons (psd_ext (K := K) (i := 1) (pd_lst (pdd_cons (pd_isE TE (by exact List.mem_cons_self) (c := 4) rfl T.w_NoNumber T.n_isinstance (pv 0)) (pdd_cons (pd_isE TE (by exact List.mem_cons_self) (c := 5) rfl T.w_Unlike T.n_isinstance (pv 0)) (pdd_cons (pd_isE TE (by exact List.mem_cons_self) (c := 6) rfl T.w_Falls T.n_isinstance (pv 0)) (pdd_cons (pd_isE TE (by exact List.mem_cons_self) (c := 7) rfl T.w_TooGreat T.n_isinstance (pv 0)) pdd_nil))))) (pv 1)) (pssd_cons (psd_ext (K := K) (i := 1) (pd_lst (pdd_cons (pd_isE TE (by exact List.mem_cons_self) (c := 8) rfl T.w_NoStep T.n_isinstance (pv 0)) (pdd_cons (pd_isE TE (by exact List.mem_cons_self) (c := 9) rfl T.w_NoDeed T.n_isinstance (pv 0)) pdd_nil))) (pv 1)) (pssd_frz (i := 1) (pssd_cons (psd_if (ptd_w (pwd_or (ptd_ne (K := K) hu (pd_countB (K := K) (pd_var 1) (pd_bl)) (pd_int)) (pwd_or1 (ptd_not (ptd_val (pd_isV TE (by exact List.mem_cons_self) T.n_ValueError T.n_isinstance (pv 0))))))) (pssd_one (psd_ret (pd_tup (pdd_cons (pd_str) (pdd_cons (pd_neg (pd_int)) pdd_nil))))) (pssd_nil)) (pssd_one (psd_ret (pd_tup (pdd_cons (pd_str) (pdd_cons (pd_indexB (K := K) (pd_var 1) (pd_bl)) pdd_nil)))))))))
    exact ⟨_, q.ps, q.ss⟩
abbrev s__law_do : Stmt := top 35
omit T TK in
theorem sc__law_do : FnScope ["_law_track", "_law_deed_here", "_law_e"] ["_law_track", "_law_deed_here"] (defScope s__law_do) := ⟨rfl, rfl, rfl, by decide +kernel, rfl, by decide +kernel, by decide +kernel⟩
theorem ok__law_do (c__law_which : ClE P w K mg base (gg K C ca) ((List.range 10).map ca) 1 "_law_which" f__law_which) (c_Track_put : ClM P w K mg base (gg K C ca) 5 4 "put" f_Track_put) (c_Track_add : ClM P w K mg base (gg K C ca) 5 4 "add" f_Track_add) (c_Track_lift : ClM P w K mg base (gg K C ca) 5 4 "lift" f_Track_lift) (c_Track_press : ClM P w K mg base (gg K C ca) 5 4 "press" f_Track_press) (c_Track_undo : ClM P w K mg base (gg K C ca) 1 1 "undo" f_Track_undo) {f : Addr} {fd : FuncData} (F : Fun K "_law_do" "_law_do" s__law_do f fd) : FnOk P w K mg base (L2.CX P w) 6 f fd ["_law_track", "_law_deed_here"] (spG (gg K C ca) 2 f__law_do) :=
  fn_body (g := gg K C ca) (N := ["_law_track", "_law_deed_here", "_law_e"]) F sc__law_do rfl fun cdv A outer s H E hr => by
    have tk : L2.Takes (cxOf (L2.CX P w) P w K mg base ["_law_track", "_law_deed_here", "_law_e"] "_law_do" (defScope s__law_do) f cdv A outer s H E) (fun cls d _ H => E cls d H) := L2.takes_of rfl rfl rfl rfl
    have px : ∀ σ, PassesAt (L2.CX P w) (cxOf (L2.CX P w) P w K mg base ["_law_track", "_law_deed_here", "_law_e"] "_law_do" (defScope s__law_do) f cdv A outer s H E) σ ((fun _ => E : EX) σ) := fun σ => passAt tk σ
    have q : PSsD (cxOf (L2.CX P w) P w K mg base ["_law_track", "_law_deed_here", "_law_e"] "_law_do" (defScope s__law_do) f cdv A outer s H E) (gg K C ca) (fun _ => E) (defBody s__law_do) _ b__law_do := pssd_one (psd_try (L := L) (i := 2) c__law_which hr T.exw (fun j c h => cls_of h) T.gL tk (m := 10) (by simp) sc__law_do.nd (fun W pn xe tk po => ⟨_, pssd_cons (psd_if (ptd_eq (K := K) hr.units (pd_ix (K := K) (pd_var 1) (pd_int)) (pd_str)) (pssd_one (psd_ret (pd_meth (K := K) (i := 0) TK c_Track_put hr (fun σ => passAt tk σ) (pv 0) (pad_cons (pd_ix (K := K) (pd_var 1) (pd_int)) (pad_cons (pd_ix (K := K) (pd_var 1) (pd_int)) (pad_cons (pd_ix (K := K) (pd_var 1) (pd_int)) pad_nil)))))) (pssd_nil)) (pssd_cons (psd_if (ptd_eq (K := K) hr.units (pd_ix (K := K) (pd_var 1) (pd_int)) (pd_str)) (pssd_one (psd_ret (pd_meth (K := K) (i := 0) TK c_Track_add hr (fun σ => passAt tk σ) (pv 0) (pad_cons (pd_ix (K := K) (pd_var 1) (pd_int)) (pad_cons (pd_ix (K := K) (pd_var 1) (pd_int)) (pad_cons (pd_ix (K := K) (pd_var 1) (pd_int)) pad_nil)))))) (pssd_nil)) (pssd_cons (psd_if (ptd_eq (K := K) hr.units (pd_ix (K := K) (pd_var 1) (pd_int)) (pd_str)) (pssd_one (psd_ret (pd_meth (K := K) (i := 0) TK c_Track_lift hr (fun σ => passAt tk σ) (pv 0) (pad_cons (pd_ix (K := K) (pd_var 1) (pd_int)) (pad_cons (pd_ix (K := K) (pd_var 1) (pd_int)) (pad_cons (pd_ix (K := K) (pd_var 1) (pd_int)) pad_nil)))))) (pssd_nil)) (pssd_cons (psd_if (ptd_eq (K := K) hr.units (pd_ix (K := K) (pd_var 1) (pd_int)) (pd_str)) (pssd_one (psd_ret (pd_meth (K := K) (i := 0) TK c_Track_press hr (fun σ => passAt tk σ) (pv 0) (pad_cons (pd_ix (K := K) (pd_var 1) (pd_int)) (pad_cons (pd_ix (K := K) (pd_var 1) (pd_int)) (pad_cons (pd_ix (K := K) (pd_var 1) (pd_int)) pad_nil)))))) (pssd_nil)) (pssd_one (psd_ret (pd_meth0 (K := K) (i := 0) TK c_Track_undo hr (fun σ => passAt tk σ) (pv 0)))))))⟩))
    exact ⟨_, q.ps, q.ss⟩
abbrev s_law : Stmt := top 36
omit T TK in
theorem sc_law : FnScope ["_law_script", "_law_town", "_law_long", "_law_worth", "_law_track", "_law_rows", "_law_k", "_law_deed_here"] ["_law_script"] (defScope s_law) := ⟨rfl, rfl, rfl, by decide +kernel, rfl, by decide +kernel, by decide +kernel⟩
theorem ok_law (c__law_draw : Cl P w K mg base (gg K C ca) 3 3 "_law_draw" f__law_draw) (c__law_pick : Cl P w K mg base (gg K C ca) 4 3 "_law_pick" f__law_pick) (c_Track_init : ClI P w K mg base (gg K C ca) 4 3 "Track" f_Track_init) (c__law_deed : Cl P w K mg base (gg K C ca) 5 3 "_law_deed" f__law_deed) (c__law_do : Cl P w K mg base (gg K C ca) 6 2 "_law_do" f__law_do) (c__law_own : Cl P w K mg base (gg K C ca) 1 2 "_law_own" f__law_own) (c_Track_line : ClM P w K mg base (gg K C ca) 1 1 "line" f_Track_line) (c__law_line : Cl P w K mg base (gg K C ca) 1 1 "_law_line" f__law_line) {f : Addr} {fd : FuncData} (F : Fun K "law" "law" s_law f fd) : FnOk P w K mg base (L2.CX P w) 7 f fd ["_law_script"] (spG (gg K C ca) 1 f_law) :=
  fn_body (g := gg K C ca) (N := ["_law_script", "_law_town", "_law_long", "_law_worth", "_law_track", "_law_rows", "_law_k", "_law_deed_here"]) F sc_law rfl fun cdv A outer s H E hr => by
    have tk : L2.Takes (cxOf (L2.CX P w) P w K mg base ["_law_script", "_law_town", "_law_long", "_law_worth", "_law_track", "_law_rows", "_law_k", "_law_deed_here"] "law" (defScope s_law) f cdv A outer s H E) (fun cls d _ H => E cls d H) := L2.takes_of rfl rfl rfl rfl
    have px : ∀ σ, PassesAt (L2.CX P w) (cxOf (L2.CX P w) P w K mg base ["_law_script", "_law_town", "_law_long", "_law_worth", "_law_track", "_law_rows", "_law_k", "_law_deed_here"] "law" (defScope s_law) f cdv A outer s H E) σ ((fun _ => E : EX) σ) := fun σ => passAt tk σ
    have q : PSsD (cxOf (L2.CX P w) P w K mg base ["_law_script", "_law_town", "_law_long", "_law_worth", "_law_track", "_law_rows", "_law_k", "_law_deed_here"] "law" (defScope s_law) f cdv A outer s H E) (gg K C ca) (fun _ => E) (defBody s_law) _ b_law := pssd_cons (psd_town 1 sc_law.nd) (pssd_cons (psd_asg (pd_add (K := K) (pd_int) (pd_call (K := K) c__law_draw hr px (pad_pin (i := 0) (pad_pin (i := 1) (pad_cons (pd_int) pad_nil))))) (pgd_name 2 sc_law.nd)) (pssd_cons (psd_asg (pd_call (K := K) c__law_pick hr px (pad_pin (i := 0) (pad_pin (i := 1) (pad_cons (pd_lst (pdd_cons (pd_int) (pdd_cons (pd_int) (pdd_cons (pd_int) (pdd_cons (pd_neg (pd_int)) (pdd_cons (pd_int) pdd_nil)))))) pad_nil)))) (pgd_name 3 sc_law.nd)) (pssd_cons (psd_make (K := K) (i := 4) c_Track_init hr px (pdn_cons (pd_var 2) (pdn_cons (pd_var 3) pdn_nil)) sc_law.nd) (pssd_cons (psd_pinL (i := 5) (pdd_cons (pd_mul (pd_lst (pdd_cons (pd_var 3) pdd_nil)) (pd_var 2)) pdd_nil) sc_law.nd) (pssd_cons (psd_for (passes_of rfl) (pid_rng1 T.n_range (pdd_cons (pd_call (K := K) c__law_draw hr px (pad_pin (i := 0) (pad_pin (i := 1) (pad_cons (pd_call (K := K) c__law_pick hr px (pad_pin (i := 0) (pad_pin (i := 1) (pad_cons (pd_lst (pdd_cons (pd_int) (pdd_cons (pd_int) (pdd_cons (pd_int) (pdd_cons (pd_int) pdd_nil))))) pad_nil)))) pad_nil)))) pdd_nil)) (pgd_name 6 sc_law.nd) (pssd_cons (psd_asg (pd_call (K := K) c__law_deed hr px (pad_pin (i := 0) (pad_pin (i := 1) (pad_cons (pd_var 2) pad_nil)))) (pgd_name 7 sc_law.nd)) (pssd_one (psd_if (ptd_w (pwd_or (ptd_ne (K := K) hr.units (pd_call (K := K) c__law_do hr px (pad_pin (i := 4) (pad_cons (pd_var 7) pad_nil))) (pd_call (K := K) c__law_own hr px (pad_pin (i := 5) (pad_cons (pd_var 7) pad_nil)))) (pwd_or1 (ptd_ne (K := K) hr.units (pd_meth0 (K := K) (i := 4) TK c_Track_line hr px (pv 4)) (pd_call (K := K) c__law_line hr px (pad_cons (pd_pix (K := K) (i := 5) (pd_neg (pd_int)) (pv 5)) pad_nil)))))) (pssd_one (psd_ret (pd_bl))) (pssd_nil))))) (pssd_cons (psd_while (n := 200) (passes_of rfl) (ptd_gt (pd_lenL (K := K) (i := 5) T.n_len (pv 5)) (pd_int)) (pssd_cons (psd_popL (K := K) (i := 5) (pv 5)) (pssd_one (psd_if (ptd_w (pwd_or (ptd_notN (pd_call (K := K) c__law_do hr px (pad_pin (i := 4) (pad_cons (pd_tup (pdd_cons (pd_str) pdd_nil)) pad_nil))) (pd_non)) (pwd_or1 (ptd_ne (K := K) hr.units (pd_meth0 (K := K) (i := 4) TK c_Track_line hr px (pv 4)) (pd_call (K := K) c__law_line hr px (pad_cons (pd_pix (K := K) (i := 5) (pd_neg (pd_int)) (pv 5)) pad_nil)))))) (pssd_one (psd_ret (pd_bl))) (pssd_nil))))) (pssd_one (psd_ret (pd_eq (K := K) hr.units (pd_call (K := K) c__law_do hr px (pad_pin (i := 4) (pad_cons (pd_tup (pdd_cons (pd_str) pdd_nil)) pad_nil))) (pd_tup (pdd_cons (pd_str) (pdd_cons (pd_int) pdd_nil))))))))))))
    exact ⟨_, q.ps, q.ss⟩
end
end Lw

namespace Lw
open PySem PySem.Spec PyProof.Rows L2 DL
theorem all_mk {l : PySem.W.OpenLaw} {w : World} {K : Fr} {h : Heap} {mg : Str → Option Value} {fa : Addr} (X : K.In h) (G : h.Ns mainGlobals mg) (hfa : mg "law" = some (.ref fa))
    {C f0 f1 f2 f3 f4 f5 f6 f7 f8 f9 f10 f11 f12 f13 f14 f15 f16 f17 f18 f19 f20 f21 f22 f23 f24 f25 e0 e1 e2 e3 e4 e5 e6 e7 e8 e9 eL : Addr} {od0 an0 od1 an1 od2 an2 od3 an3 od4 an4 od5 an5 od6 an6 od7 an7 od8 an8 od9 an9 od10 an10 od11 an11 od12 an12 od13 an13 od14 an14 od15 an15 od16 an16 od17 an17 od18 an18 od19 an19 od20 an20 od21 an21 od22 an22 od23 an23 od24 an24 od25 an25 : Option Addr} {sl0 sl1 sl2 sl3 sl4 sl5 sl6 sl7 sl8 sl9 sl10 sl11 sl12 sl13 sl14 sl15 sl16 sl17 sl18 sl19 sl20 sl21 sl22 sl23 sl24 sl25 : Array (Option Value)} {oc0 kV0 dc0 pm0 cd0 ct0 oc1 kV1 dc1 pm1 cd1 ct1 oc2 kV2 dc2 pm2 cd2 ct2 oc3 kV3 dc3 pm3 cd3 ct3 oc4 kV4 dc4 pm4 cd4 ct4 oc5 kV5 dc5 pm5 cd5 ct5 oc6 kV6 dc6 pm6 cd6 ct6 oc7 kV7 dc7 pm7 cd7 ct7 oc8 kV8 dc8 pm8 cd8 ct8 oc9 kV9 dc9 pm9 cd9 ct9 oc10 kV10 dc10 pm10 cd10 ct10 oc11 kV11 dc11 pm11 cd11 ct11 oc12 kV12 dc12 pm12 cd12 ct12 oc13 kV13 dc13 pm13 cd13 ct13 oc14 kV14 dc14 pm14 cd14 ct14 oc15 kV15 dc15 pm15 cd15 ct15 oc16 kV16 dc16 pm16 cd16 ct16 oc17 kV17 dc17 pm17 cd17 ct17 oc18 kV18 dc18 pm18 cd18 ct18 oc19 kV19 dc19 pm19 cd19 ct19 oc20 kV20 dc20 pm20 cd20 ct20 oc21 kV21 dc21 pm21 cd21 ct21 oc22 kV22 dc22 pm22 cd22 ct22 oc23 kV23 dc23 pm23 cd23 ct23 oc24 kV24 dc24 pm24 cd24 ct24 oc25 kV25 dc25 pm25 cd25 ct25 : Value}
    {cd0_ cd1_ cd2_ cd3_ cd4_ cd5_ cd6_ cd7_ cd8_ cd9_ : ClassData}
    {t_GREAT t_LONG : Tok}
    (tC : PySem.W.nsIn K mainGlobals "Track" = some (some (.ref C)))
    (tg : PySem.W.plainGet K C Str.empty = true)
    (th : PySem.W.hasDictIn K C = true)
    (tp : PySem.W.plainOver K C = true)
    (ts : PySem.W.findIn K (.ref C) "__setattr__" = some (some (.builtin "object.__setattr__")))
    (tn : PySem.W.findIn K (.ref C) "here" = some none)
    (tq : PySem.W.findIn K (.ref C) "past" = some none)
    (tm : PySem.W.makesIn K C = true)
    (tk_ : PySem.W.keepIn K (.ref C) = true)
    (a0 : PySem.W.nsIn K mainGlobals "is_whole" = some (some (.ref f0)))
    (l0 : K.lookup f0 = some ⟨oc0, od0, .func (PySem.W.fnOf "is_whole" "is_whole" (defArgs s_is_whole) (defBody s_is_whole) (defScope s_is_whole) .none kV0 dc0 pm0 an0 cd0 ct0), sl0⟩)
    (c0 : PySem.W.codeIn K cd0 "is_whole" = true)
    (k0 : PySem.W.keepIn K (.ref f0) = true)
    (a1 : PySem.W.nsIn K mainGlobals "is_value" = some (some (.ref f1)))
    (l1 : K.lookup f1 = some ⟨oc1, od1, .func (PySem.W.fnOf "is_value" "is_value" (defArgs s_is_value) (defBody s_is_value) (defScope s_is_value) .none kV1 dc1 pm1 an1 cd1 ct1), sl1⟩)
    (c1 : PySem.W.codeIn K cd1 "is_value" = true)
    (k1 : PySem.W.keepIn K (.ref f1) = true)
    (a2 : PySem.W.nsIn K mainGlobals "need_value" = some (some (.ref f2)))
    (l2 : K.lookup f2 = some ⟨oc2, od2, .func (PySem.W.fnOf "need_value" "need_value" (defArgs s_need_value) (defBody s_need_value) (defScope s_need_value) .none kV2 dc2 pm2 an2 cd2 ct2), sl2⟩)
    (c2 : PySem.W.codeIn K cd2 "need_value" = true)
    (k2 : PySem.W.keepIn K (.ref f2) = true)
    (a3 : PySem.W.nsIn K mainGlobals "need_stretch" = some (some (.ref f3)))
    (l3 : K.lookup f3 = some ⟨oc3, od3, .func (PySem.W.fnOf "need_stretch" "need_stretch" (defArgs s_need_stretch) (defBody s_need_stretch) (defScope s_need_stretch) .none kV3 dc3 pm3 an3 cd3 ct3), sl3⟩)
    (c3 : PySem.W.codeIn K cd3 "need_stretch" = true)
    (k3 : PySem.W.keepIn K (.ref f3) = true)
    (a4 : PySem.W.nsIn K mainGlobals "from_list" = some (some (.ref f4)))
    (l4 : K.lookup f4 = some ⟨oc4, od4, .func (PySem.W.fnOf "from_list" "from_list" (defArgs s_from_list) (defBody s_from_list) (defScope s_from_list) .none kV4 dc4 pm4 an4 cd4 ct4), sl4⟩)
    (c4 : PySem.W.codeIn K cd4 "from_list" = true)
    (k4 : PySem.W.keepIn K (.ref f4) = true)
    (a5 : PySem.W.nsIn K mainGlobals "to_list" = some (some (.ref f5)))
    (l5 : K.lookup f5 = some ⟨oc5, od5, .func (PySem.W.fnOf "to_list" "to_list" (defArgs s_to_list) (defBody s_to_list) (defScope s_to_list) .none kV5 dc5 pm5 an5 cd5 ct5), sl5⟩)
    (c5 : PySem.W.codeIn K cd5 "to_list" = true)
    (k5 : PySem.W.keepIn K (.ref f5) = true)
    (a6 : PySem.W.nsIn K mainGlobals "checked" = some (some (.ref f6)))
    (l6 : K.lookup f6 = some ⟨oc6, od6, .func (PySem.W.fnOf "checked" "checked" (defArgs s_checked) (defBody s_checked) (defScope s_checked) .none kV6 dc6 pm6 an6 cd6 ct6), sl6⟩)
    (c6 : PySem.W.codeIn K cd6 "checked" = true)
    (k6 : PySem.W.keepIn K (.ref f6) = true)
    (a7 : PySem.W.findIn K (.ref C) "__init__" = some (some (.ref f7)))
    (i7 : PySem.W.isFn K (.ref f7) = true)
    (l7 : K.lookup f7 = some ⟨oc7, od7, .func (PySem.W.fnOf "__init__" "Track.__init__" (defArgs s_Track_init) (defBody s_Track_init) (defScope s_Track_init) .none kV7 dc7 pm7 an7 cd7 ct7), sl7⟩)
    (c7 : PySem.W.codeIn K cd7 "Track.__init__" = true)
    (k7 : PySem.W.keepIn K (.ref f7) = true)
    (a8 : PySem.W.findIn K (.ref C) "line" = some (some (.ref f8)))
    (i8 : PySem.W.isFn K (.ref f8) = true)
    (l8 : K.lookup f8 = some ⟨oc8, od8, .func (PySem.W.fnOf "line" "Track.line" (defArgs s_Track_line) (defBody s_Track_line) (defScope s_Track_line) .none kV8 dc8 pm8 an8 cd8 ct8), sl8⟩)
    (c8 : PySem.W.codeIn K cd8 "Track.line" = true)
    (k8 : PySem.W.keepIn K (.ref f8) = true)
    (a9 : PySem.W.nsIn K mainGlobals "new_value" = some (some (.ref f9)))
    (l9 : K.lookup f9 = some ⟨oc9, od9, .func (PySem.W.fnOf "new_value" "new_value" (defArgs s_new_value) (defBody s_new_value) (defScope s_new_value) .none kV9 dc9 pm9 an9 cd9 ct9), sl9⟩)
    (c9 : PySem.W.codeIn K cd9 "new_value" = true)
    (k9 : PySem.W.keepIn K (.ref f9) = true)
    (a10 : PySem.W.findIn K (.ref C) "change" = some (some (.ref f10)))
    (i10 : PySem.W.isFn K (.ref f10) = true)
    (l10 : K.lookup f10 = some ⟨oc10, od10, .func (PySem.W.fnOf "change" "Track.change" (defArgs s_Track_change) (defBody s_Track_change) (defScope s_Track_change) .none kV10 dc10 pm10 an10 cd10 ct10), sl10⟩)
    (c10 : PySem.W.codeIn K cd10 "Track.change" = true)
    (k10 : PySem.W.keepIn K (.ref f10) = true)
    (a11 : PySem.W.findIn K (.ref C) "put" = some (some (.ref f11)))
    (i11 : PySem.W.isFn K (.ref f11) = true)
    (l11 : K.lookup f11 = some ⟨oc11, od11, .func (PySem.W.fnOf "put" "Track.put" (defArgs s_Track_put) (defBody s_Track_put) (defScope s_Track_put) .none kV11 dc11 pm11 an11 cd11 ct11), sl11⟩)
    (c11 : PySem.W.codeIn K cd11 "Track.put" = true)
    (k11 : PySem.W.keepIn K (.ref f11) = true)
    (a12 : PySem.W.findIn K (.ref C) "add" = some (some (.ref f12)))
    (i12 : PySem.W.isFn K (.ref f12) = true)
    (l12 : K.lookup f12 = some ⟨oc12, od12, .func (PySem.W.fnOf "add" "Track.add" (defArgs s_Track_add) (defBody s_Track_add) (defScope s_Track_add) .none kV12 dc12 pm12 an12 cd12 ct12), sl12⟩)
    (c12 : PySem.W.codeIn K cd12 "Track.add" = true)
    (k12 : PySem.W.keepIn K (.ref f12) = true)
    (a13 : PySem.W.findIn K (.ref C) "lift" = some (some (.ref f13)))
    (i13 : PySem.W.isFn K (.ref f13) = true)
    (l13 : K.lookup f13 = some ⟨oc13, od13, .func (PySem.W.fnOf "lift" "Track.lift" (defArgs s_Track_lift) (defBody s_Track_lift) (defScope s_Track_lift) .none kV13 dc13 pm13 an13 cd13 ct13), sl13⟩)
    (c13 : PySem.W.codeIn K cd13 "Track.lift" = true)
    (k13 : PySem.W.keepIn K (.ref f13) = true)
    (a14 : PySem.W.findIn K (.ref C) "press" = some (some (.ref f14)))
    (i14 : PySem.W.isFn K (.ref f14) = true)
    (l14 : K.lookup f14 = some ⟨oc14, od14, .func (PySem.W.fnOf "press" "Track.press" (defArgs s_Track_press) (defBody s_Track_press) (defScope s_Track_press) .none kV14 dc14 pm14 an14 cd14 ct14), sl14⟩)
    (c14 : PySem.W.codeIn K cd14 "Track.press" = true)
    (k14 : PySem.W.keepIn K (.ref f14) = true)
    (a15 : PySem.W.findIn K (.ref C) "undo" = some (some (.ref f15)))
    (i15 : PySem.W.isFn K (.ref f15) = true)
    (l15 : K.lookup f15 = some ⟨oc15, od15, .func (PySem.W.fnOf "undo" "Track.undo" (defArgs s_Track_undo) (defBody s_Track_undo) (defScope s_Track_undo) .none kV15 dc15 pm15 an15 cd15 ct15), sl15⟩)
    (c15 : PySem.W.codeIn K cd15 "Track.undo" = true)
    (k15 : PySem.W.keepIn K (.ref f15) = true)
    (a16 : PySem.W.nsIn K mainGlobals "_law_cell_at" = some (some (.ref f16)))
    (l16 : K.lookup f16 = some ⟨oc16, od16, .func (PySem.W.fnOf "_law_cell_at" "_law_cell_at" (defArgs s__law_cell_at) (defBody s__law_cell_at) (defScope s__law_cell_at) .none kV16 dc16 pm16 an16 cd16 ct16), sl16⟩)
    (c16 : PySem.W.codeIn K cd16 "_law_cell_at" = true)
    (k16 : PySem.W.keepIn K (.ref f16) = true)
    (a17 : PySem.W.nsIn K mainGlobals "_law_mixed" = some (some (.ref f17)))
    (l17 : K.lookup f17 = some ⟨oc17, od17, .func (PySem.W.fnOf "_law_mixed" "_law_mixed" (defArgs s__law_mixed) (defBody s__law_mixed) (defScope s__law_mixed) .none kV17 dc17 pm17 an17 cd17 ct17), sl17⟩)
    (c17 : PySem.W.codeIn K cd17 "_law_mixed" = true)
    (k17 : PySem.W.keepIn K (.ref f17) = true)
    (a18 : PySem.W.nsIn K mainGlobals "_law_draw" = some (some (.ref f18)))
    (l18 : K.lookup f18 = some ⟨oc18, od18, .func (PySem.W.fnOf "_law_draw" "_law_draw" (defArgs s__law_draw) (defBody s__law_draw) (defScope s__law_draw) .none kV18 dc18 pm18 an18 cd18 ct18), sl18⟩)
    (c18 : PySem.W.codeIn K cd18 "_law_draw" = true)
    (k18 : PySem.W.keepIn K (.ref f18) = true)
    (a19 : PySem.W.nsIn K mainGlobals "_law_pick" = some (some (.ref f19)))
    (l19 : K.lookup f19 = some ⟨oc19, od19, .func (PySem.W.fnOf "_law_pick" "_law_pick" (defArgs s__law_pick) (defBody s__law_pick) (defScope s__law_pick) .none kV19 dc19 pm19 an19 cd19 ct19), sl19⟩)
    (c19 : PySem.W.codeIn K cd19 "_law_pick" = true)
    (k19 : PySem.W.keepIn K (.ref f19) = true)
    (a20 : PySem.W.nsIn K mainGlobals "_law_line" = some (some (.ref f20)))
    (l20 : K.lookup f20 = some ⟨oc20, od20, .func (PySem.W.fnOf "_law_line" "_law_line" (defArgs s__law_line) (defBody s__law_line) (defScope s__law_line) .none kV20 dc20 pm20 an20 cd20 ct20), sl20⟩)
    (c20 : PySem.W.codeIn K cd20 "_law_line" = true)
    (k20 : PySem.W.keepIn K (.ref f20) = true)
    (a21 : PySem.W.nsIn K mainGlobals "_law_deed" = some (some (.ref f21)))
    (l21 : K.lookup f21 = some ⟨oc21, od21, .func (PySem.W.fnOf "_law_deed" "_law_deed" (defArgs s__law_deed) (defBody s__law_deed) (defScope s__law_deed) .none kV21 dc21 pm21 an21 cd21 ct21), sl21⟩)
    (c21 : PySem.W.codeIn K cd21 "_law_deed" = true)
    (k21 : PySem.W.keepIn K (.ref f21) = true)
    (a22 : PySem.W.nsIn K mainGlobals "_law_own" = some (some (.ref f22)))
    (l22 : K.lookup f22 = some ⟨oc22, od22, .func (PySem.W.fnOf "_law_own" "_law_own" (defArgs s__law_own) (defBody s__law_own) (defScope s__law_own) .none kV22 dc22 pm22 an22 cd22 ct22), sl22⟩)
    (c22 : PySem.W.codeIn K cd22 "_law_own" = true)
    (k22 : PySem.W.keepIn K (.ref f22) = true)
    (a23 : PySem.W.nsIn K mainGlobals "_law_which" = some (some (.ref f23)))
    (l23 : K.lookup f23 = some ⟨oc23, od23, .func (PySem.W.fnOf "_law_which" "_law_which" (defArgs s__law_which) (defBody s__law_which) (defScope s__law_which) .none kV23 dc23 pm23 an23 cd23 ct23), sl23⟩)
    (c23 : PySem.W.codeIn K cd23 "_law_which" = true)
    (k23 : PySem.W.keepIn K (.ref f23) = true)
    (a24 : PySem.W.nsIn K mainGlobals "_law_do" = some (some (.ref f24)))
    (l24 : K.lookup f24 = some ⟨oc24, od24, .func (PySem.W.fnOf "_law_do" "_law_do" (defArgs s__law_do) (defBody s__law_do) (defScope s__law_do) .none kV24 dc24 pm24 an24 cd24 ct24), sl24⟩)
    (c24 : PySem.W.codeIn K cd24 "_law_do" = true)
    (k24 : PySem.W.keepIn K (.ref f24) = true)
    (a25 : PySem.W.nsIn K mainGlobals "law" = some (some (.ref f25)))
    (l25 : K.lookup f25 = some ⟨oc25, od25, .func (PySem.W.fnOf "law" "law" (defArgs s_law) (defBody s_law) (defScope s_law) .none kV25 dc25 pm25 an25 cd25 ct25), sl25⟩)
    (c25 : PySem.W.codeIn K cd25 "law" = true)
    (k25 : PySem.W.keepIn K (.ref f25) = true)
    (z_ValueError : PySem.W.nsIn K mainGlobals "ValueError" = some none)
    (z_all : PySem.W.nsIn K mainGlobals "all" = some none)
    (z_bool : PySem.W.nsIn K mainGlobals "bool" = some none)
    (z_enumerate : PySem.W.nsIn K mainGlobals "enumerate" = some none)
    (z_int : PySem.W.nsIn K mainGlobals "int" = some none)
    (z_isinstance : PySem.W.nsIn K mainGlobals "isinstance" = some none)
    (z_len : PySem.W.nsIn K mainGlobals "len" = some none)
    (z_list : PySem.W.nsIn K mainGlobals "list" = some none)
    (z_max : PySem.W.nsIn K mainGlobals "max" = some none)
    (z_min : PySem.W.nsIn K mainGlobals "min" = some none)
    (z_range : PySem.W.nsIn K mainGlobals "range" = some none)
    (z_tuple : PySem.W.nsIn K mainGlobals "tuple" = some none)
    (z_zip : PySem.W.nsIn K mainGlobals "zip" = some none)
    (g_GREAT : PySem.W.nsIn K mainGlobals "GREAT" = some (some (.int 999 t_GREAT)))
    (g_LONG : PySem.W.nsIn K mainGlobals "LONG" = some (some (.int 60 t_LONG)))
    (eg2 : PySem.W.nsIn K mainGlobals "NoPlace" = some (some (.ref e2)))
    (ex2 : PySem.W.excIn K e2 [.type "ValueError", .type "Exception", .type "BaseException", .type "object"] "ValueError.__new__" = true)
    (ek2 : PySem.W.keepIn K (.ref e2) = true)
    (eb2 : PySem.W.subIn K (.ref e2) (.type "BaseException") = some true)
    (et2 : PySem.W.typeIn K (.ref e2) = some (.type "type"))
    (eg8 : PySem.W.nsIn K mainGlobals "NoStep" = some (some (.ref e8)))
    (ex8 : PySem.W.excIn K e8 [.type "ValueError", .type "Exception", .type "BaseException", .type "object"] "ValueError.__new__" = true)
    (ek8 : PySem.W.keepIn K (.ref e8) = true)
    (eb8 : PySem.W.subIn K (.ref e8) (.type "BaseException") = some true)
    (et8 : PySem.W.typeIn K (.ref e8) = some (.type "type"))
    (eg3 : PySem.W.nsIn K mainGlobals "NoValue" = some (some (.ref e3)))
    (ex3 : PySem.W.excIn K e3 [.type "ValueError", .type "Exception", .type "BaseException", .type "object"] "ValueError.__new__" = true)
    (ek3 : PySem.W.keepIn K (.ref e3) = true)
    (eb3 : PySem.W.subIn K (.ref e3) (.type "BaseException") = some true)
    (et3 : PySem.W.typeIn K (.ref e3) = some (.type "type"))
    (eg7 : PySem.W.nsIn K mainGlobals "TooGreat" = some (some (.ref e7)))
    (ex7 : PySem.W.excIn K e7 [.type "ValueError", .type "Exception", .type "BaseException", .type "object"] "ValueError.__new__" = true)
    (ek7 : PySem.W.keepIn K (.ref e7) = true)
    (eb7 : PySem.W.subIn K (.ref e7) (.type "BaseException") = some true)
    (et7 : PySem.W.typeIn K (.ref e7) = some (.type "type"))
    (eg0 : PySem.W.nsIn K mainGlobals "NoLine" = some (some (.ref e0)))
    (et0 : PySem.W.typeIn K (.ref e0) = some (.type "type"))
    (qa0 : PySem.W.findIn K (.ref e0) "__getattribute__" = some (some (.builtin "BaseException.__getattribute__")))
    (qb0 : PySem.W.findIn K (.ref e0) "__getattr__" = some none)
    (qc0 : PySem.W.hasDictIn K e0 = true)
    (qd0 : PySem.W.findIn K (.ref e0) "__class__" = some (some (.builtin "object.__class__")))
    (qe0 : PySem.W.clsIn K e0 = some cd0_)
    (qf0 : cd0_.mro = [.ref e0, .ref eL, .type "ValueError", .type "Exception", .type "BaseException", .type "object"])
    (eg1 : PySem.W.nsIn K mainGlobals "NoRows" = some (some (.ref e1)))
    (et1 : PySem.W.typeIn K (.ref e1) = some (.type "type"))
    (qa1 : PySem.W.findIn K (.ref e1) "__getattribute__" = some (some (.builtin "BaseException.__getattribute__")))
    (qb1 : PySem.W.findIn K (.ref e1) "__getattr__" = some none)
    (qc1 : PySem.W.hasDictIn K e1 = true)
    (qd1 : PySem.W.findIn K (.ref e1) "__class__" = some (some (.builtin "object.__class__")))
    (qe1 : PySem.W.clsIn K e1 = some cd1_)
    (qf1 : cd1_.mro = [.ref e1, .ref eL, .type "ValueError", .type "Exception", .type "BaseException", .type "object"])
    (qa2 : PySem.W.findIn K (.ref e2) "__getattribute__" = some (some (.builtin "BaseException.__getattribute__")))
    (qb2 : PySem.W.findIn K (.ref e2) "__getattr__" = some none)
    (qc2 : PySem.W.hasDictIn K e2 = true)
    (qd2 : PySem.W.findIn K (.ref e2) "__class__" = some (some (.builtin "object.__class__")))
    (qe2 : PySem.W.clsIn K e2 = some cd2_)
    (qf2 : cd2_.mro = [.ref e2, .ref eL, .type "ValueError", .type "Exception", .type "BaseException", .type "object"])
    (qa3 : PySem.W.findIn K (.ref e3) "__getattribute__" = some (some (.builtin "BaseException.__getattribute__")))
    (qb3 : PySem.W.findIn K (.ref e3) "__getattr__" = some none)
    (qc3 : PySem.W.hasDictIn K e3 = true)
    (qd3 : PySem.W.findIn K (.ref e3) "__class__" = some (some (.builtin "object.__class__")))
    (qe3 : PySem.W.clsIn K e3 = some cd3_)
    (qf3 : cd3_.mro = [.ref e3, .ref eL, .type "ValueError", .type "Exception", .type "BaseException", .type "object"])
    (eg4 : PySem.W.nsIn K mainGlobals "NoNumber" = some (some (.ref e4)))
    (et4 : PySem.W.typeIn K (.ref e4) = some (.type "type"))
    (qa4 : PySem.W.findIn K (.ref e4) "__getattribute__" = some (some (.builtin "BaseException.__getattribute__")))
    (qb4 : PySem.W.findIn K (.ref e4) "__getattr__" = some none)
    (qc4 : PySem.W.hasDictIn K e4 = true)
    (qd4 : PySem.W.findIn K (.ref e4) "__class__" = some (some (.builtin "object.__class__")))
    (qe4 : PySem.W.clsIn K e4 = some cd4_)
    (qf4 : cd4_.mro = [.ref e4, .ref eL, .type "ValueError", .type "Exception", .type "BaseException", .type "object"])
    (eg5 : PySem.W.nsIn K mainGlobals "Unlike" = some (some (.ref e5)))
    (et5 : PySem.W.typeIn K (.ref e5) = some (.type "type"))
    (qa5 : PySem.W.findIn K (.ref e5) "__getattribute__" = some (some (.builtin "BaseException.__getattribute__")))
    (qb5 : PySem.W.findIn K (.ref e5) "__getattr__" = some none)
    (qc5 : PySem.W.hasDictIn K e5 = true)
    (qd5 : PySem.W.findIn K (.ref e5) "__class__" = some (some (.builtin "object.__class__")))
    (qe5 : PySem.W.clsIn K e5 = some cd5_)
    (qf5 : cd5_.mro = [.ref e5, .ref eL, .type "ValueError", .type "Exception", .type "BaseException", .type "object"])
    (eg6 : PySem.W.nsIn K mainGlobals "Falls" = some (some (.ref e6)))
    (et6 : PySem.W.typeIn K (.ref e6) = some (.type "type"))
    (qa6 : PySem.W.findIn K (.ref e6) "__getattribute__" = some (some (.builtin "BaseException.__getattribute__")))
    (qb6 : PySem.W.findIn K (.ref e6) "__getattr__" = some none)
    (qc6 : PySem.W.hasDictIn K e6 = true)
    (qd6 : PySem.W.findIn K (.ref e6) "__class__" = some (some (.builtin "object.__class__")))
    (qe6 : PySem.W.clsIn K e6 = some cd6_)
    (qf6 : cd6_.mro = [.ref e6, .ref eL, .type "ValueError", .type "Exception", .type "BaseException", .type "object"])
    (qa7 : PySem.W.findIn K (.ref e7) "__getattribute__" = some (some (.builtin "BaseException.__getattribute__")))
    (qb7 : PySem.W.findIn K (.ref e7) "__getattr__" = some none)
    (qc7 : PySem.W.hasDictIn K e7 = true)
    (qd7 : PySem.W.findIn K (.ref e7) "__class__" = some (some (.builtin "object.__class__")))
    (qe7 : PySem.W.clsIn K e7 = some cd7_)
    (qf7 : cd7_.mro = [.ref e7, .ref eL, .type "ValueError", .type "Exception", .type "BaseException", .type "object"])
    (qa8 : PySem.W.findIn K (.ref e8) "__getattribute__" = some (some (.builtin "BaseException.__getattribute__")))
    (qb8 : PySem.W.findIn K (.ref e8) "__getattr__" = some none)
    (qc8 : PySem.W.hasDictIn K e8 = true)
    (qd8 : PySem.W.findIn K (.ref e8) "__class__" = some (some (.builtin "object.__class__")))
    (qe8 : PySem.W.clsIn K e8 = some cd8_)
    (qf8 : cd8_.mro = [.ref e8, .ref eL, .type "ValueError", .type "Exception", .type "BaseException", .type "object"])
    (eg9 : PySem.W.nsIn K mainGlobals "NoDeed" = some (some (.ref e9)))
    (et9 : PySem.W.typeIn K (.ref e9) = some (.type "type"))
    (qa9 : PySem.W.findIn K (.ref e9) "__getattribute__" = some (some (.builtin "BaseException.__getattribute__")))
    (qb9 : PySem.W.findIn K (.ref e9) "__getattr__" = some none)
    (qc9 : PySem.W.hasDictIn K e9 = true)
    (qd9 : PySem.W.findIn K (.ref e9) "__class__" = some (some (.builtin "object.__class__")))
    (qe9 : PySem.W.clsIn K e9 = some cd9_)
    (qf9 : cd9_.mro = [.ref e9, .ref eL, .type "ValueError", .type "Exception", .type "BaseException", .type "object"])
    (qg : PySem.W.specialIn K (.builtin "object.__class__") "__get__" = some (some (.builtin "getset_descriptor.__get__")))
    (qh : PySem.W.takesIn K (.builtin "object.__class__") = some true)
    (gL : PySem.W.nsIn K mainGlobals "LineError" = some (some (.ref eL)))
    (lc : PySem.W.isClsIn K eL = true)
    (lt_ : PySem.W.typeIn K (.ref eL) = some (.type "type"))
    (lb : PySem.W.subIn K (.ref eL) (.type "BaseException") = some true)
    (nd_ : (eL :: [e0, e1, e2, e3, e4, e5, e6, e7, e8, e9]).Nodup)
    : ∃ fd : FuncData, (∀ (s : Shared) (v : Value), BindsTo s fd ⟨[v], []⟩ [("_law_script", v)]) ∧ ∀ base : Heap, K.In base → base.Ns mainGlobals mg → FnOk l.prog w K mg base (L2.CX l.prog w) 7 fa fd ["_law_script"] (spLaw K) := by
  have e := hfa.symm.trans (PySem.W.mg_of X G a25)
  cases e
  have T : Txt K mg (fun n => ([e0, e1, e2, e3, e4, e5, e6, e7, e8, e9, 0, 0] : List Addr).getD n 0) eL :=
    { n_ValueError := PySem.W.mg_none_of X G z_ValueError
      n_all := PySem.W.mg_none_of X G z_all
      n_bool := PySem.W.mg_none_of X G z_bool
      n_enumerate := PySem.W.mg_none_of X G z_enumerate
      n_int := PySem.W.mg_none_of X G z_int
      n_isinstance := PySem.W.mg_none_of X G z_isinstance
      n_len := PySem.W.mg_none_of X G z_len
      n_list := PySem.W.mg_none_of X G z_list
      n_max := PySem.W.mg_none_of X G z_max
      n_min := PySem.W.mg_none_of X G z_min
      n_range := PySem.W.mg_none_of X G z_range
      n_tuple := PySem.W.mg_none_of X G z_tuple
      n_zip := PySem.W.mg_none_of X G z_zip
      g_GREAT := ⟨_, PySem.W.mg_of X G g_GREAT⟩
      g_LONG := ⟨_, PySem.W.mg_of X G g_LONG⟩
      e_NoPlace := ⟨PySem.W.mg_of X G eg2, ex2, ek2, eb2, et2⟩
      e_NoStep := ⟨PySem.W.mg_of X G eg8, ex8, ek8, eb8, et8⟩
      e_NoValue := ⟨PySem.W.mg_of X G eg3, ex3, ek3, eb3, et3⟩
      e_TooGreat := ⟨PySem.W.mg_of X G eg7, ex7, ek7, eb7, et7⟩
      w_Falls := PySem.W.mg_of X G eg6
      w_NoDeed := PySem.W.mg_of X G eg9
      w_NoLine := PySem.W.mg_of X G eg0
      w_NoNumber := PySem.W.mg_of X G eg4
      w_NoPlace := PySem.W.mg_of X G eg2
      w_NoRows := PySem.W.mg_of X G eg1
      w_NoStep := PySem.W.mg_of X G eg8
      w_NoValue := PySem.W.mg_of X G eg3
      w_TooGreat := PySem.W.mg_of X G eg7
      w_Unlike := PySem.W.mg_of X G eg5
      exw := ⟨all_mem (by simp only [List.range, List.range.loop, List.map_cons, List.map_nil, AllQ]; exact ⟨⟨⟨qa0, qb0, sub_be qe0 qf0, qc0, qd0, qg, qh, mro_obj qe0 qf0⟩, ⟨_, qe0, qf0⟩, et0⟩, ⟨⟨qa1, qb1, sub_be qe1 qf1, qc1, qd1, qg, qh, mro_obj qe1 qf1⟩, ⟨_, qe1, qf1⟩, et1⟩, ⟨⟨qa2, qb2, sub_be qe2 qf2, qc2, qd2, qg, qh, mro_obj qe2 qf2⟩, ⟨_, qe2, qf2⟩, et2⟩, ⟨⟨qa3, qb3, sub_be qe3 qf3, qc3, qd3, qg, qh, mro_obj qe3 qf3⟩, ⟨_, qe3, qf3⟩, et3⟩, ⟨⟨qa4, qb4, sub_be qe4 qf4, qc4, qd4, qg, qh, mro_obj qe4 qf4⟩, ⟨_, qe4, qf4⟩, et4⟩, ⟨⟨qa5, qb5, sub_be qe5 qf5, qc5, qd5, qg, qh, mro_obj qe5 qf5⟩, ⟨_, qe5, qf5⟩, et5⟩, ⟨⟨qa6, qb6, sub_be qe6 qf6, qc6, qd6, qg, qh, mro_obj qe6 qf6⟩, ⟨_, qe6, qf6⟩, et6⟩, ⟨⟨qa7, qb7, sub_be qe7 qf7, qc7, qd7, qg, qh, mro_obj qe7 qf7⟩, ⟨_, qe7, qf7⟩, et7⟩, ⟨⟨qa8, qb8, sub_be qe8 qf8, qc8, qd8, qg, qh, mro_obj qe8 qf8⟩, ⟨_, qe8, qf8⟩, et8⟩, ⟨⟨qa9, qb9, sub_be qe9 qf9, qc9, qd9, qg, qh, mro_obj qe9 qf9⟩, ⟨_, qe9, qf9⟩, et9⟩, trivial⟩), nd_, lc, lt_, lb⟩
      gL := PySem.W.mg_of X G gL }
  have TK : TrkOk (gg K C (fun n => ([e0, e1, e2, e3, e4, e5, e6, e7, e8, e9, 0, 0] : List Addr).getD n 0)) := ⟨⟨tg, th, tp, ts⟩, tn, tq⟩
  have F0 := fun_mk (st := s_is_whole) l0 c0 k0
  have F1 := fun_mk (st := s_is_value) l1 c1 k1
  have F2 := fun_mk (st := s_need_value) l2 c2 k2
  have F3 := fun_mk (st := s_need_stretch) l3 c3 k3
  have F4 := fun_mk (st := s_from_list) l4 c4 k4
  have F5 := fun_mk (st := s_to_list) l5 c5 k5
  have F6 := fun_mk (st := s_checked) l6 c6 k6
  have F7 := fun_mk (st := s_Track_init) l7 c7 k7
  have F8 := fun_mk (st := s_Track_line) l8 c8 k8
  have F9 := fun_mk (st := s_new_value) l9 c9 k9
  have F10 := fun_mk (st := s_Track_change) l10 c10 k10
  have F11 := fun_mk (st := s_Track_put) l11 c11 k11
  have F12 := fun_mk (st := s_Track_add) l12 c12 k12
  have F13 := fun_mk (st := s_Track_lift) l13 c13 k13
  have F14 := fun_mk (st := s_Track_press) l14 c14 k14
  have F15 := fun_mk (st := s_Track_undo) l15 c15 k15
  have F16 := fun_mk (st := s__law_cell_at) l16 c16 k16
  have F17 := fun_mk (st := s__law_mixed) l17 c17 k17
  have F18 := fun_mk (st := s__law_draw) l18 c18 k18
  have F19 := fun_mk (st := s__law_pick) l19 c19 k19
  have F20 := fun_mk (st := s__law_line) l20 c20 k20
  have F21 := fun_mk (st := s__law_deed) l21 c21 k21
  have F22 := fun_mk (st := s__law_own) l22 c22 k22
  have F23 := fun_mk (st := s__law_which) l23 c23 k23
  have F24 := fun_mk (st := s__law_do) l24 c24 k24
  have F25 := fun_mk (st := s_law) l25 c25 k25
  have b0 := F0.binds (ps := ["thing", "low", "most"]) fun _ _ _ _ _ _ us hl => match us, hl with | [_, _, _], _ => rfl
  have b1 := F1.binds (ps := ["thing"]) fun _ _ _ _ _ _ us hl => match us, hl with | [_], _ => rfl
  have b2 := F2.binds (ps := ["thing"]) fun _ _ _ _ _ _ us hl => match us, hl with | [_], _ => rfl
  have b3 := F3.binds (ps := ["line", "first", "last"]) fun _ _ _ _ _ _ us hl => match us, hl with | [_, _, _], _ => rfl
  have b4 := F4.binds (ps := ["values"]) fun _ _ _ _ _ _ us hl => match us, hl with | [_], _ => rfl
  have b5 := F5.binds (ps := ["line"]) fun _ _ _ _ _ _ us hl => match us, hl with | [_], _ => rfl
  have b6 := F6.binds (ps := ["line"]) fun _ _ _ _ _ _ us hl => match us, hl with | [_], _ => rfl
  have b7 := F7.binds (ps := ["self", "long", "value"]) fun _ _ _ _ _ _ us hl => match us, hl with | [_, _, _], _ => rfl
  have b8 := F8.binds (ps := ["self"]) fun _ _ _ _ _ _ us hl => match us, hl with | [_], _ => rfl
  have b9 := F9.binds (ps := ["word", "old", "value"]) fun _ _ _ _ _ _ us hl => match us, hl with | [_, _, _], _ => rfl
  have b10 := F10.binds (ps := ["self", "word", "first", "last", "value"]) fun _ _ _ _ _ _ us hl => match us, hl with | [_, _, _, _, _], _ => rfl
  have b11 := F11.binds (ps := ["self", "first", "last", "value"]) fun _ _ _ _ _ _ us hl => match us, hl with | [_, _, _, _], _ => rfl
  have b12 := F12.binds (ps := ["self", "first", "last", "value"]) fun _ _ _ _ _ _ us hl => match us, hl with | [_, _, _, _], _ => rfl
  have b13 := F13.binds (ps := ["self", "first", "last", "value"]) fun _ _ _ _ _ _ us hl => match us, hl with | [_, _, _, _], _ => rfl
  have b14 := F14.binds (ps := ["self", "first", "last", "value"]) fun _ _ _ _ _ _ us hl => match us, hl with | [_, _, _, _], _ => rfl
  have b15 := F15.binds (ps := ["self"]) fun _ _ _ _ _ _ us hl => match us, hl with | [_], _ => rfl
  have b16 := F16.binds (ps := ["_law_script", "_law_k"]) fun _ _ _ _ _ _ us hl => match us, hl with | [_, _], _ => rfl
  have b17 := F17.binds (ps := ["_law_script", "_law_k", "_law_many"]) fun _ _ _ _ _ _ us hl => match us, hl with | [_, _, _], _ => rfl
  have b18 := F18.binds (ps := ["_law_script", "_law_town", "_law_many"]) fun _ _ _ _ _ _ us hl => match us, hl with | [_, _, _], _ => rfl
  have b19 := F19.binds (ps := ["_law_script", "_law_town", "_law_some"]) fun _ _ _ _ _ _ us hl => match us, hl with | [_, _, _], _ => rfl
  have b20 := F20.binds (ps := ["_law_values"]) fun _ _ _ _ _ _ us hl => match us, hl with | [_], _ => rfl
  have b21 := F21.binds (ps := ["_law_script", "_law_town", "_law_long"]) fun _ _ _ _ _ _ us hl => match us, hl with | [_, _, _], _ => rfl
  have b22 := F22.binds (ps := ["_law_rows", "_law_deed_here"]) fun _ _ _ _ _ _ us hl => match us, hl with | [_, _], _ => rfl
  have b23 := F23.binds (ps := ["_law_e"]) fun _ _ _ _ _ _ us hl => match us, hl with | [_], _ => rfl
  have b24 := F24.binds (ps := ["_law_track", "_law_deed_here"]) fun _ _ _ _ _ _ us hl => match us, hl with | [_, _], _ => rfl
  refine ⟨PySem.W.fnOf "law" "law" (defArgs s_law) (defBody s_law) (defScope s_law) .none kV25 dc25 pm25 an25 cd25 ct25, fun s v => .of_eq rfl, fun base _ _ => ?_⟩
  have c_is_whole : Cl l.prog w K mg base (gg K C (fun n => ([e0, e1, e2, e3, e4, e5, e6, e7, e8, e9, 0, 0] : List Addr).getD n 0)) 1 3 "is_whole" f_is_whole := ⟨_, _, _, ok_is_whole T TK  F0, PySem.W.mg_of X G a0, k0, b0⟩
  have c_is_value : Cl l.prog w K mg base (gg K C (fun n => ([e0, e1, e2, e3, e4, e5, e6, e7, e8, e9, 0, 0] : List Addr).getD n 0)) 2 1 "is_value" f_is_value := ⟨_, _, _, ok_is_value T TK c_is_whole F1, PySem.W.mg_of X G a1, k1, b1⟩
  have c_need_value : Cl l.prog w K mg base (gg K C (fun n => ([e0, e1, e2, e3, e4, e5, e6, e7, e8, e9, 0, 0] : List Addr).getD n 0)) 3 1 "need_value" f_need_value := ⟨_, _, _, ok_need_value T TK c_is_value F2, PySem.W.mg_of X G a2, k2, b2⟩
  have c_need_stretch : Cl l.prog w K mg base (gg K C (fun n => ([e0, e1, e2, e3, e4, e5, e6, e7, e8, e9, 0, 0] : List Addr).getD n 0)) 2 3 "need_stretch" f_need_stretch := ⟨_, _, _, ok_need_stretch T TK c_is_whole F3, PySem.W.mg_of X G a3, k3, b3⟩
  have c_from_list : Cl l.prog w K mg base (gg K C (fun n => ([e0, e1, e2, e3, e4, e5, e6, e7, e8, e9, 0, 0] : List Addr).getD n 0)) 1 1 "from_list" f_from_list := ⟨_, _, _, ok_from_list T TK  F4, PySem.W.mg_of X G a4, k4, b4⟩
  have c_to_list : Cl l.prog w K mg base (gg K C (fun n => ([e0, e1, e2, e3, e4, e5, e6, e7, e8, e9, 0, 0] : List Addr).getD n 0)) 1 1 "to_list" f_to_list := ⟨_, _, _, ok_to_list T TK  F5, PySem.W.mg_of X G a5, k5, b5⟩
  have c_checked : Cl l.prog w K mg base (gg K C (fun n => ([e0, e1, e2, e3, e4, e5, e6, e7, e8, e9, 0, 0] : List Addr).getD n 0)) 3 1 "checked" f_checked := ⟨_, _, _, ok_checked T TK c_is_value F6, PySem.W.mg_of X G a6, k6, b6⟩
  have c_Track_init : ClI l.prog w K mg base (gg K C (fun n => ([e0, e1, e2, e3, e4, e5, e6, e7, e8, e9, 0, 0] : List Addr).getD n 0)) 4 3 "Track" f_Track_init := ⟨_, _, _, ok_Track_init T TK c_is_whole c_need_value F7, ⟨tm, a7, i7, tk_⟩, PySem.W.mg_of X G tC, b7⟩
  have c_Track_line : ClM l.prog w K mg base (gg K C (fun n => ([e0, e1, e2, e3, e4, e5, e6, e7, e8, e9, 0, 0] : List Addr).getD n 0)) 1 1 "line" f_Track_line := ⟨_, _, _, ok_Track_line T TK  F8, ⟨a8, i8, k8⟩, b8⟩
  have c_new_value : Cl l.prog w K mg base (gg K C (fun n => ([e0, e1, e2, e3, e4, e5, e6, e7, e8, e9, 0, 0] : List Addr).getD n 0)) 1 3 "new_value" f_new_value := ⟨_, _, _, ok_new_value T TK  F9, PySem.W.mg_of X G a9, k9, b9⟩
  have c_Track_change : ClM l.prog w K mg base (gg K C (fun n => ([e0, e1, e2, e3, e4, e5, e6, e7, e8, e9, 0, 0] : List Addr).getD n 0)) 4 5 "change" f_Track_change := ⟨_, _, _, ok_Track_change T TK c_need_stretch c_need_value c_to_list c_new_value c_checked c_from_list F10, ⟨a10, i10, k10⟩, b10⟩
  have c_Track_put : ClM l.prog w K mg base (gg K C (fun n => ([e0, e1, e2, e3, e4, e5, e6, e7, e8, e9, 0, 0] : List Addr).getD n 0)) 5 4 "put" f_Track_put := ⟨_, _, _, ok_Track_put T TK c_Track_change F11, ⟨a11, i11, k11⟩, b11⟩
  have c_Track_add : ClM l.prog w K mg base (gg K C (fun n => ([e0, e1, e2, e3, e4, e5, e6, e7, e8, e9, 0, 0] : List Addr).getD n 0)) 5 4 "add" f_Track_add := ⟨_, _, _, ok_Track_add T TK c_Track_change F12, ⟨a12, i12, k12⟩, b12⟩
  have c_Track_lift : ClM l.prog w K mg base (gg K C (fun n => ([e0, e1, e2, e3, e4, e5, e6, e7, e8, e9, 0, 0] : List Addr).getD n 0)) 5 4 "lift" f_Track_lift := ⟨_, _, _, ok_Track_lift T TK c_Track_change F13, ⟨a13, i13, k13⟩, b13⟩
  have c_Track_press : ClM l.prog w K mg base (gg K C (fun n => ([e0, e1, e2, e3, e4, e5, e6, e7, e8, e9, 0, 0] : List Addr).getD n 0)) 5 4 "press" f_Track_press := ⟨_, _, _, ok_Track_press T TK c_Track_change F14, ⟨a14, i14, k14⟩, b14⟩
  have c_Track_undo : ClM l.prog w K mg base (gg K C (fun n => ([e0, e1, e2, e3, e4, e5, e6, e7, e8, e9, 0, 0] : List Addr).getD n 0)) 1 1 "undo" f_Track_undo := ⟨_, _, _, ok_Track_undo T TK  F15, ⟨a15, i15, k15⟩, b15⟩
  have c__law_cell_at : Cl l.prog w K mg base (gg K C (fun n => ([e0, e1, e2, e3, e4, e5, e6, e7, e8, e9, 0, 0] : List Addr).getD n 0)) 1 2 "_law_cell_at" f__law_cell_at := ⟨_, _, _, ok__law_cell_at T TK  F16, PySem.W.mg_of X G a16, k16, b16⟩
  have c__law_mixed : Cl l.prog w K mg base (gg K C (fun n => ([e0, e1, e2, e3, e4, e5, e6, e7, e8, e9, 0, 0] : List Addr).getD n 0)) 2 3 "_law_mixed" f__law_mixed := ⟨_, _, _, ok__law_mixed T TK c__law_cell_at F17, PySem.W.mg_of X G a17, k17, b17⟩
  have c__law_draw : Cl l.prog w K mg base (gg K C (fun n => ([e0, e1, e2, e3, e4, e5, e6, e7, e8, e9, 0, 0] : List Addr).getD n 0)) 3 3 "_law_draw" f__law_draw := ⟨_, _, _, ok__law_draw T TK c__law_mixed F18, PySem.W.mg_of X G a18, k18, b18⟩
  have c__law_pick : Cl l.prog w K mg base (gg K C (fun n => ([e0, e1, e2, e3, e4, e5, e6, e7, e8, e9, 0, 0] : List Addr).getD n 0)) 4 3 "_law_pick" f__law_pick := ⟨_, _, _, ok__law_pick T TK c__law_draw F19, PySem.W.mg_of X G a19, k19, b19⟩
  have c__law_line : Cl l.prog w K mg base (gg K C (fun n => ([e0, e1, e2, e3, e4, e5, e6, e7, e8, e9, 0, 0] : List Addr).getD n 0)) 1 1 "_law_line" f__law_line := ⟨_, _, _, ok__law_line T TK  F20, PySem.W.mg_of X G a20, k20, b20⟩
  have c__law_deed : Cl l.prog w K mg base (gg K C (fun n => ([e0, e1, e2, e3, e4, e5, e6, e7, e8, e9, 0, 0] : List Addr).getD n 0)) 5 3 "_law_deed" f__law_deed := ⟨_, _, _, ok__law_deed T TK c__law_pick c__law_draw F21, PySem.W.mg_of X G a21, k21, b21⟩
  have c__law_own : Cl l.prog w K mg base (gg K C (fun n => ([e0, e1, e2, e3, e4, e5, e6, e7, e8, e9, 0, 0] : List Addr).getD n 0)) 1 2 "_law_own" f__law_own := ⟨_, _, _, ok__law_own T TK  F22, PySem.W.mg_of X G a22, k22, b22⟩
  have c__law_which : ClE l.prog w K mg base (gg K C (fun n => ([e0, e1, e2, e3, e4, e5, e6, e7, e8, e9, 0, 0] : List Addr).getD n 0)) ((List.range 10).map (fun n => ([e0, e1, e2, e3, e4, e5, e6, e7, e8, e9, 0, 0] : List Addr).getD n 0)) 1 "_law_which" f__law_which := ⟨_, _, _, ok__law_which T TK F23, PySem.W.mg_of X G a23, k23, b23⟩
  have c__law_do : Cl l.prog w K mg base (gg K C (fun n => ([e0, e1, e2, e3, e4, e5, e6, e7, e8, e9, 0, 0] : List Addr).getD n 0)) 6 2 "_law_do" f__law_do := ⟨_, _, _, ok__law_do T TK c__law_which c_Track_put c_Track_add c_Track_lift c_Track_press c_Track_undo F24, PySem.W.mg_of X G a24, k24, b24⟩
  exact fn_law (ok_law T TK c__law_draw c__law_pick c_Track_init c__law_deed c__law_do c__law_own c_Track_line c__law_line F25) Lw.law_true
end Lw
open PySem PySem.W PyProof.Rows in
theorem PySem.Challenge.cw_stepline_k11_whole_tracks_holds : PySem.Challenge.rw_stepline_k11_whole_tracks.Holds := by
  w_on; o_law; k_head; (case hw => w_witness2)
  k_fill
  refine DL.walk (k := 7) (l := PySem.Challenge.rw_stepline_k11_whole_tracks) rfl rfl ⟨rfl, by decide, by decide⟩ (fun w h Y => PySem.W.kIn_of Y) ?F
  case F =>
    intro w mg fa h KX G hmg
    refine' Lw.all_mk KX G hmg ?tC ?tg ?th ?tp ?ts ?tn ?tq ?tm ?tk_ ?a0 ?l0 ?c0 ?k0 ?a1 ?l1 ?c1 ?k1 ?a2 ?l2 ?c2 ?k2 ?a3 ?l3 ?c3 ?k3 ?a4 ?l4 ?c4 ?k4 ?a5 ?l5 ?c5 ?k5 ?a6 ?l6 ?c6 ?k6 ?a7 ?i7 ?l7 ?c7 ?k7 ?a8 ?i8 ?l8 ?c8 ?k8 ?a9 ?l9 ?c9 ?k9 ?a10 ?i10 ?l10 ?c10 ?k10 ?a11 ?i11 ?l11 ?c11 ?k11 ?a12 ?i12 ?l12 ?c12 ?k12 ?a13 ?i13 ?l13 ?c13 ?k13 ?a14 ?i14 ?l14 ?c14 ?k14 ?a15 ?i15 ?l15 ?c15 ?k15 ?a16 ?l16 ?c16 ?k16 ?a17 ?l17 ?c17 ?k17 ?a18 ?l18 ?c18 ?k18 ?a19 ?l19 ?c19 ?k19 ?a20 ?l20 ?c20 ?k20 ?a21 ?l21 ?c21 ?k21 ?a22 ?l22 ?c22 ?k22 ?a23 ?l23 ?c23 ?k23 ?a24 ?l24 ?c24 ?k24 ?a25 ?l25 ?c25 ?k25 ?z_ValueError ?z_all ?z_bool ?z_enumerate ?z_int ?z_isinstance ?z_len ?z_list ?z_max ?z_min ?z_range ?z_tuple ?z_zip ?g_GREAT ?g_LONG ?eg2 ?ex2 ?ek2 ?eb2 ?et2 ?eg8 ?ex8 ?ek8 ?eb8 ?et8 ?eg3 ?ex3 ?ek3 ?eb3 ?et3 ?eg7 ?ex7 ?ek7 ?eb7 ?et7 ?eg0 ?et0 ?qa0 ?qb0 ?qc0 ?qd0 ?qe0 ?qf0 ?eg1 ?et1 ?qa1 ?qb1 ?qc1 ?qd1 ?qe1 ?qf1 ?qa2 ?qb2 ?qc2 ?qd2 ?qe2 ?qf2 ?qa3 ?qb3 ?qc3 ?qd3 ?qe3 ?qf3 ?eg4 ?et4 ?qa4 ?qb4 ?qc4 ?qd4 ?qe4 ?qf4 ?eg5 ?et5 ?qa5 ?qb5 ?qc5 ?qd5 ?qe5 ?qf5 ?eg6 ?et6 ?qa6 ?qb6 ?qc6 ?qd6 ?qe6 ?qf6 ?qa7 ?qb7 ?qc7 ?qd7 ?qe7 ?qf7 ?qa8 ?qb8 ?qc8 ?qd8 ?qe8 ?qf8 ?eg9 ?et9 ?qa9 ?qb9 ?qc9 ?qd9 ?qe9 ?qf9 ?qg ?qh ?gL ?lc ?lt_ ?lb ?nd_
    (case tC => k_is)
    (case tg => k_is)
    (case th => k_is)
    (case tp => k_is)
    (case ts => k_is)
    (case tn => k_is)
    (case tq => k_is)
    (case tm => k_is)
    (case tk_ => k_is)
    (case a0 => k_is)
    (case l0 => k_is)
    (case c0 => k_is)
    (case k0 => k_is)
    (case a1 => k_is)
    (case l1 => k_is)
    (case c1 => k_is)
    (case k1 => k_is)
    (case a2 => k_is)
    (case l2 => k_is)
    (case c2 => k_is)
    (case k2 => k_is)
    (case a3 => k_is)
    (case l3 => k_is)
    (case c3 => k_is)
    (case k3 => k_is)
    (case a4 => k_is)
    (case l4 => k_is)
    (case c4 => k_is)
    (case k4 => k_is)
    (case a5 => k_is)
    (case l5 => k_is)
    (case c5 => k_is)
    (case k5 => k_is)
    (case a6 => k_is)
    (case l6 => k_is)
    (case c6 => k_is)
    (case k6 => k_is)
    (case a7 => k_is)
    (case i7 => k_is)
    (case l7 => k_is)
    (case c7 => k_is)
    (case k7 => k_is)
    (case a8 => k_is)
    (case i8 => k_is)
    (case l8 => k_is)
    (case c8 => k_is)
    (case k8 => k_is)
    (case a9 => k_is)
    (case l9 => k_is)
    (case c9 => k_is)
    (case k9 => k_is)
    (case a10 => k_is)
    (case i10 => k_is)
    (case l10 => k_is)
    (case c10 => k_is)
    (case k10 => k_is)
    (case a11 => k_is)
    (case i11 => k_is)
    (case l11 => k_is)
    (case c11 => k_is)
    (case k11 => k_is)
    (case a12 => k_is)
    (case i12 => k_is)
    (case l12 => k_is)
    (case c12 => k_is)
    (case k12 => k_is)
    (case a13 => k_is)
    (case i13 => k_is)
    (case l13 => k_is)
    (case c13 => k_is)
    (case k13 => k_is)
    (case a14 => k_is)
    (case i14 => k_is)
    (case l14 => k_is)
    (case c14 => k_is)
    (case k14 => k_is)
    (case a15 => k_is)
    (case i15 => k_is)
    (case l15 => k_is)
    (case c15 => k_is)
    (case k15 => k_is)
    (case a16 => k_is)
    (case l16 => k_is)
    (case c16 => k_is)
    (case k16 => k_is)
    (case a17 => k_is)
    (case l17 => k_is)
    (case c17 => k_is)
    (case k17 => k_is)
    (case a18 => k_is)
    (case l18 => k_is)
    (case c18 => k_is)
    (case k18 => k_is)
    (case a19 => k_is)
    (case l19 => k_is)
    (case c19 => k_is)
    (case k19 => k_is)
    (case a20 => k_is)
    (case l20 => k_is)
    (case c20 => k_is)
    (case k20 => k_is)
    (case a21 => k_is)
    (case l21 => k_is)
    (case c21 => k_is)
    (case k21 => k_is)
    (case a22 => k_is)
    (case l22 => k_is)
    (case c22 => k_is)
    (case k22 => k_is)
    (case a23 => k_is)
    (case l23 => k_is)
    (case c23 => k_is)
    (case k23 => k_is)
    (case a24 => k_is)
    (case l24 => k_is)
    (case c24 => k_is)
    (case k24 => k_is)
    (case a25 => k_is)
    (case l25 => k_is)
    (case c25 => k_is)
    (case k25 => k_is)
    (case z_ValueError => k_is)
    (case z_all => k_is)
    (case z_bool => k_is)
    (case z_enumerate => k_is)
    (case z_int => k_is)
    (case z_isinstance => k_is)
    (case z_len => k_is)
    (case z_list => k_is)
    (case z_max => k_is)
    (case z_min => k_is)
    (case z_range => k_is)
    (case z_tuple => k_is)
    (case z_zip => k_is)
    (case g_GREAT => k_is)
    (case g_LONG => k_is)
    (case eg2 => k_is)
    (case ex2 => k_exc)
    (case ek2 => k_is)
    (case eb2 => k_is)
    (case et2 => k_is)
    (case eg8 => k_is)
    (case ex8 => k_exc)
    (case ek8 => k_is)
    (case eb8 => k_is)
    (case et8 => k_is)
    (case eg3 => k_is)
    (case ex3 => k_exc)
    (case ek3 => k_is)
    (case eb3 => k_is)
    (case et3 => k_is)
    (case eg7 => k_is)
    (case ex7 => k_exc)
    (case ek7 => k_is)
    (case eb7 => k_is)
    (case et7 => k_is)
    (case eg0 => k_is)
    (case et0 => k_is)
    (case qa0 => k_is)
    (case qb0 => k_is)
    (case qc0 => k_is)
    (case qd0 => k_is)
    (case qe0 => k_is)
    (case qf0 => rfl)
    (case eg1 => k_is)
    (case et1 => k_is)
    (case qa1 => k_is)
    (case qb1 => k_is)
    (case qc1 => k_is)
    (case qd1 => k_is)
    (case qe1 => k_is)
    (case qf1 => rfl)
    (case qa2 => k_is)
    (case qb2 => k_is)
    (case qc2 => k_is)
    (case qd2 => k_is)
    (case qe2 => k_is)
    (case qf2 => rfl)
    (case qa3 => k_is)
    (case qb3 => k_is)
    (case qc3 => k_is)
    (case qd3 => k_is)
    (case qe3 => k_is)
    (case qf3 => rfl)
    (case eg4 => k_is)
    (case et4 => k_is)
    (case qa4 => k_is)
    (case qb4 => k_is)
    (case qc4 => k_is)
    (case qd4 => k_is)
    (case qe4 => k_is)
    (case qf4 => rfl)
    (case eg5 => k_is)
    (case et5 => k_is)
    (case qa5 => k_is)
    (case qb5 => k_is)
    (case qc5 => k_is)
    (case qd5 => k_is)
    (case qe5 => k_is)
    (case qf5 => rfl)
    (case eg6 => k_is)
    (case et6 => k_is)
    (case qa6 => k_is)
    (case qb6 => k_is)
    (case qc6 => k_is)
    (case qd6 => k_is)
    (case qe6 => k_is)
    (case qf6 => rfl)
    (case qa7 => k_is)
    (case qb7 => k_is)
    (case qc7 => k_is)
    (case qd7 => k_is)
    (case qe7 => k_is)
    (case qf7 => rfl)
    (case qa8 => k_is)
    (case qb8 => k_is)
    (case qc8 => k_is)
    (case qd8 => k_is)
    (case qe8 => k_is)
    (case qf8 => rfl)
    (case eg9 => k_is)
    (case et9 => k_is)
    (case qa9 => k_is)
    (case qb9 => k_is)
    (case qc9 => k_is)
    (case qd9 => k_is)
    (case qe9 => k_is)
    (case qf9 => rfl)
    (case qg => k_is)
    (case qh => k_is)
    (case gL => k_is)
    (case lc => k_is)
    (case lt_ => k_is)
    (case lb => k_is)
    (case nd_ => decide)
#print axioms PySem.Challenge.cw_stepline_k11_whole_tracks_holds

