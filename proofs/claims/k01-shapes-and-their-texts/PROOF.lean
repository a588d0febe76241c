import PyProof.Rows.All
import Wide.All
import OpenK.AllK
import Wide.FinOn
import HandS.ForMost
import HandS.Exc
import HandS.TryOnly
import HandS.ExcOwn
import HandS.WordsExc
import HandS.Defaults
import HandS.HeadHook1
import HandS.TupAny
import HandS.Style
import HandS.Conv
import HandS.Zip
import HandS.IsInst
import HandS.Flow
import HandS.DictTup
import HandS.TryMany
import HandS.Lambda
import HandS.DictComp
import HandS.Strs
import HandS.SetKeys
import HandS.SortKw
import HandS.ExcInit
import HandS.Nested
import HandS.Walk
import HandS.CallSlots
import PyProof.P3In
import PyProof.P3Eq
import KE.SortData
import HandS.HeadEnd
import KE.GoesMore
import HandS.Text
import HandS.Codes
import HandS.SetFor
import HandS.ExcIs
import HandS.HeadHook4
import PySem.Challenge.RW_grovehouse_k01_shapes_and_their_texts
import KE.KStateDown
import Lean
import HandS.Base
import HandS.Call
import HandS.Ends
import HandS.More
import HandS.Words
import HandS.Head0
import HandS.Head1
import HandS.Head2
import HandS.HeadHook2
import HandS.HeadHook3
set_option Elab.async false
set_option linter.all false
set_option maxRecDepth 100000
set_option maxHeartbeats 1000000
/-! Values without a heap for tuples and for lists that nobody writes; a small heap of own objects; how both lie in the abstract heap of the hand layer. -/
set_option autoImplicit false
namespace GH
open PySem PySem.Spec PyProof.Rows L2

def sOf (x : List Nat) : Str := ⟨x.toArray⟩
theorem sOf_inj {x y : List Nat} (h : sOf x = sOf y) : x = y := by
  have := congrArg (fun s : Str => s.cps.toList) h
  simpa [sOf] using this
theorem sOf_len (x : List Nat) : (sOf x).length = x.length := by simp [sOf, Str.length]

/-- a value: tuples and unwritten lists as they are, an object of the small heap by its place -/
inductive Val where
  | non | bl (b : Bool) | int (i : Int) | str (s : List Nat)
  | tup (l : List Val) | lst (l : List Val) | fz (l : List Val) | ref (a : Nat)
  deriving Inhabited

/-- an object that may be written -/
inductive Ob where
  | lst (l : List Val)
  | dic (l : List (Val × Val))
  | ins (c : List Nat) (fs : List (List Nat × Val))
  deriving Inhabited
abbrev Hv := List Ob
abbrev Loc := List (Option Val)

/-- the ghost: where the small heap's objects lie; what else is being written -/
structure Gh where
  m : List Addr
  r : List Addr
def Gh.own (g : Gh) (a : Addr) : Prop := a ∈ g.m ∨ a ∈ g.r

/-- a list that nobody writes at all: the script, a list at the top -/
def FzL (K : PySem.W.Frag) (H : Hp) (a : Addr) (xs : List V) : Prop := (∃ o, H a = some (.frz o (.lst xs))) ∨
  ∃ (o : Obj) (its : Array Value) (n : Nat), K.lookup a = some o ∧ o.cls = .type "list" ∧ o.dict = none ∧ o.data = .seq its n ∧ its.size ≤ sizeLine ∧ Vals xs its.toList
theorem FzL.imp {K : PySem.W.Frag} {H H' : Hp} {a : Addr} {xs : List V} (s : FzL K H a xs) (f : ∀ o, H a = some (.frz o (.lst xs)) → H' a = some (.frz o (.lst xs))) : FzL K H' a xs := s.elim (fun ⟨o, e⟩ => .inl ⟨o, f o e⟩) .inr
theorem FzL.sq {K : PySem.W.Frag} {H : Hp} {a : Addr} {xs : List V} (s : FzL K H a xs) : SqL K H a xs := s.elim (fun ⟨o, e⟩ => .inl (.inr ⟨o, e⟩)) .inr
mutual
def VR (K : PySem.W.Frag) (g : Gh) (H : Hp) : Val → V → Prop
  | .non, x => x = .non
  | .bl b, x => x = .bl b
  | .int i, x => x = .int i
  | .str s, x => x = .str (sOf s)
  | .tup l, x => ∃ a xs, x = .ref a ∧ SqT K H a xs ∧ VRs K g H l xs
  | .lst l, x => ∃ a xs, x = .ref a ∧ ¬ g.own a ∧ H a = some (.lst xs) ∧ VRs K g H l xs
  | .fz l, x => ∃ a xs, x = .ref a ∧ FzL K H a xs ∧ VRs K g H l xs
  | .ref i, x => ∃ a, x = .ref a ∧ g.m[i]? = some a
def VRs (K : PySem.W.Frag) (g : Gh) (H : Hp) : List Val → List V → Prop
  | [], xs => xs = []
  | v :: l, xs => ∃ x r, xs = x :: r ∧ VR K g H v x ∧ VRs K g H l r
end

def keyOf : Val → Option Key
  | .int i => some (.inl i)
  | .str s => some (.inr (sOf s))
  | _ => none
/-- a class by its name -/
abbrev clsA (K : PySem.W.Frag) (c : List Nat) : Addr := He.ga K (sOf c)
/-- the fields, by name -/
def FR (K : PySem.W.Frag) (g : Gh) (H : Hp) (fs : List (List Nat × Val)) (gs : List (Str × V)) : Prop :=
  gs.map (·.1) = fs.map (fun p => sOf p.1) ∧ VRs K g H (fs.map (·.2)) (gs.map (·.2))
def DR (K : PySem.W.Frag) (g : Gh) (H : Hp) (l : List (Val × Val)) (ks : List (Key × V)) : Prop :=
  l.map (fun p => keyOf p.1) = ks.map (fun q => some q.1) ∧ VRs K g H (l.map (·.2)) (ks.map (·.2))
def OR (K : PySem.W.Frag) (g : Gh) (H : Hp) (a : Addr) : Ob → Prop
  | .lst l => ∃ xs, H a = some (.lst xs) ∧ VRs K g H l xs
  | .dic l => ∃ ks, H a = some (.dK ks) ∧ DR K g H l ks
  | .ins c fs => ∃ dx gs, H a = some (.ins (clsA K c) dx gs) ∧ FR K g H fs gs
structure HR (K : PySem.W.Frag) (g : Gh) (H : Hp) (h : Hv) : Prop where
  len : g.m.length = h.length
  nd : g.m.Nodup
  dis : ∀ a ∈ g.m, a ∉ g.r
  al : ∀ a ∈ g.r, ∃ o, H a = some o ∧ Mut (some o)
  obj : ∀ (i : Nat) o a, h[i]? = some o → g.m[i]? = some a → OR K g H a o
structure SR (K : PySem.W.Frag) (g : Gh) (H : Hp) (l : Loc) (σ : L2.St) : Prop where
  len : l.length = σ.length
  at_ : ∀ (i : Nat) v, l[i]? = some (some v) → ∃ x, σ[i]? = some (some x) ∧ VR K g H v x
/-- .. what is being written may have grown -/
structure ExtS (g : Gh) (H : Hp) (g' : Gh) (H' : Hp) : Prop where
  m : ∃ t, g'.m = g.m ++ t ∧ ∀ b ∈ t, H b = none
  r : ∃ u, g'.r = u ++ g.r ∧ ∀ b ∈ u, H b = none
  keep : ∀ b o, H b = some o → ¬ g.own b → H' b = some o
structure Ext (g : Gh) (H : Hp) (g' : Gh) (H' : Hp) : Prop where
  m : ∃ t, g'.m = g.m ++ t ∧ ∀ b ∈ t, H b = none
  r : g'.r = g.r
  keep : ∀ b o, H b = some o → b ∉ g.m → H' b = some o
  there : ∀ b o, H b = some o → ∃ o', H' b = some o'

section
variable {K : PySem.W.Frag} {g g' g'' : Gh} {H H' H'' : Hp} {h : Hv}
theorem Ext.refl : Ext g H g H := ⟨⟨[], by simp, by simp⟩, rfl, fun _ _ e _ => e, fun b o e => ⟨o, e⟩⟩
theorem Ext.trans (a : Ext g H g' H') (b : Ext g' H' g'' H'') : Ext g H g'' H'' := by
  obtain ⟨t, e1, n1⟩ := a.m
  obtain ⟨u, e2, n2⟩ := b.m
  refine ⟨⟨t ++ u, by rw [e2, e1, List.append_assoc], fun c hc => ?_⟩, b.r.trans a.r, fun c o e hn => ?_, fun c o e => ?_⟩
  · rcases List.mem_append.mp hc with hc | hc
    · exact n1 c hc
    · cases q : H c with
      | none => rfl
      | some o =>
        obtain ⟨o', e'⟩ := a.there c o q
        rw [n2 c hc] at e'
        cases e'
  · refine b.keep c o (a.keep c o e hn) ?_
    rw [e1]
    intro hc
    rcases List.mem_append.mp hc with hc | hc
    · exact hn hc
    · rw [n1 c hc] at e; cases e
  · obtain ⟨o', e'⟩ := a.there c o e
    exact b.there c o' e'
theorem HR.own_there (R : HR K g H h) {a : Addr} (ha : g.own a) : ∃ o, H a = some o := by
  rcases ha with ha | ha
  · obtain ⟨i, hi, e⟩ := List.getElem_of_mem ha
    have hi' : i < h.length := by rw [← R.len]; exact hi
    have q := R.obj i h[i] a (by simp [hi']) (by rw [← e]; simp [hi])
    cases ho : h[i] with
    | lst l => rw [ho] at q; obtain ⟨_, e, _⟩ := q; exact ⟨_, e⟩
    | dic l => rw [ho] at q; obtain ⟨_, e, _⟩ := q; exact ⟨_, e⟩
    | ins c f => rw [ho] at q; obtain ⟨_, _, e, _⟩ := q; exact ⟨_, e⟩
  · obtain ⟨o, e, _⟩ := R.al a ha
    exact ⟨_, e⟩
theorem HR.fresh (R : HR K g H h) {a : Addr} (ha : H a = none) : ¬ g.own a := fun q => by
  obtain ⟨o, e⟩ := R.own_there q
  rw [ha] at e; cases e
/-- what is owned is no tuple and not locked -/
theorem HR.kind (R : HR K g H h) {a : Addr} (ha : a ∈ g.m) : (∃ xs, H a = some (.lst xs)) ∨ (∃ ks, H a = some (.dK ks)) ∨ ∃ C dx gs, H a = some (.ins C dx gs) := by
  obtain ⟨i, hi, e⟩ := List.getElem_of_mem ha
  have hi' : i < h.length := by rw [← R.len]; exact hi
  have q := R.obj i h[i] a (by simp [hi']) (by rw [← e]; simp [hi])
  cases ho : h[i] with
  | lst l => rw [ho] at q; obtain ⟨_, e, _⟩ := q; exact .inl ⟨_, e⟩
  | dic l => rw [ho] at q; obtain ⟨_, e, _⟩ := q; exact .inr (.inl ⟨_, e⟩)
  | ins c f => rw [ho] at q; obtain ⟨_, _, e, _⟩ := q; exact .inr (.inr ⟨_, _, _, e⟩)
theorem HR.not_tup (R : HR K g H h) {a : Addr} {xs : List V} (e : Rd H a (.tup xs)) : a ∉ g.m := fun ha => by
  rcases R.kind ha with ⟨_, q⟩ | ⟨_, q⟩ | ⟨_, _, _, q⟩ <;> rcases e with e | ⟨_, e⟩ <;> rw [q] at e <;> cases e
theorem Ext.s (E : Ext g H g' H') : ExtS g H g' H' := ⟨E.m, ⟨[], by rw [E.r]; rfl, by simp⟩, fun b o e hn => E.keep b o e fun z => hn (.inl z)⟩
theorem HR.not_own (R : HR K g H h) {a : Addr} {o : HO} (e : H a = some o) (n : ¬ Mut (some o)) : ¬ g.own a := fun ha => by
  rcases ha with ha | ha
  · rcases R.kind ha with ⟨_, q⟩ | ⟨_, q⟩ | ⟨_, _, _, q⟩ <;> rw [q] at e <;> cases e <;> exact n trivial
  · obtain ⟨o', e', m⟩ := R.al a ha
    rw [e] at e'; cases e'
    exact n m
theorem HR.tup_own (R : HR K g H h) {a : Addr} {xs : List V} (e : Rd H a (.tup xs)) : ¬ g.own a := by
  rcases e with e | ⟨_, e⟩
  · exact R.not_own e (fun z => z)
  · exact R.not_own e (fun z => z)
theorem ExtS.rd (E : ExtS g H g' H') {a : Addr} {u : HO} (ha : ¬ g.own a) (e : Rd H a u) : Rd H' a u := by
  rcases e with e | ⟨o, e⟩
  · exact .inl (E.keep _ _ e ha)
  · exact .inr ⟨o, E.keep _ _ e ha⟩
theorem ExtS.nown (E : ExtS g H g' H') {a : Addr} {o : HO} (ha : ¬ g.own a) (e : H a = some o) : ¬ g'.own a := fun q => by
  obtain ⟨t, em, n⟩ := E.m
  obtain ⟨u, er, n2⟩ := E.r
  rcases q with q | q
  · rw [em] at q
    rcases List.mem_append.mp q with q | q
    · exact ha (.inl q)
    · rw [n a q] at e; cases e
  · rw [er] at q
    rcases List.mem_append.mp q with q | q
    · rw [n2 a q] at e; cases e
    · exact ha (.inr q)
theorem Ext.rd (E : Ext g H g' H') {a : Addr} {u : HO} (ha : a ∉ g.m) (e : Rd H a u) : Rd H' a u := by
  rcases e with e | ⟨o, e⟩
  · exact .inl (E.keep _ _ e ha)
  · exact .inr ⟨o, E.keep _ _ e ha⟩
theorem Ext.nown (E : Ext g H g' H') {a : Addr} {o : HO} (ha : ¬ g.own a) (e : H a = some o) : ¬ g'.own a := fun q => by
  obtain ⟨t, em, n⟩ := E.m
  rcases q with q | q
  · rw [em] at q
    rcases List.mem_append.mp q with q | q
    · exact ha (.inl q)
    · rw [n a q] at e; cases e
  · rw [E.r] at q
    exact ha (.inr q)
theorem Rd.some {a : Addr} {u : HO} (e : Rd H a u) : ∃ o, H a = some o := by
  rcases e with e | ⟨o, e⟩
  · exact ⟨_, e⟩
  · exact ⟨_, e⟩
mutual
theorem VR.extS (R : HR K g H h) (E : ExtS g H g' H') : ∀ {v : Val} {x : V}, VR K g H v x → VR K g' H' v x
  | .non, x, q => by simpa only [VR] using q
  | .bl b, x, q => by simpa only [VR] using q
  | .int i, x, q => by simpa only [VR] using q
  | .str s, x, q => by simpa only [VR] using q
  | .tup l, x, q => by
    simp only [VR] at q ⊢
    obtain ⟨a, xs, e, s, r⟩ := q
    refine ⟨a, xs, e, ?_, VRs.extS R E r⟩
    rcases s with s | s
    · exact .inl (E.rd (R.tup_own s) s)
    · exact .inr s
  | .lst l, x, q => by
    simp only [VR] at q ⊢
    obtain ⟨a, xs, e, n, s, r⟩ := q
    exact ⟨a, xs, e, E.nown n s, E.keep _ _ s n, VRs.extS R E r⟩
  | .fz l, x, q => by
    simp only [VR] at q ⊢
    obtain ⟨a, xs, e, s, r⟩ := q
    refine ⟨a, xs, e, s.imp fun o s => E.keep _ _ s (R.not_own s fun z => z), VRs.extS R E r⟩
  | .ref i, x, q => by
    simp only [VR] at q ⊢
    obtain ⟨a, e, n⟩ := q
    obtain ⟨t, em, _⟩ := E.m
    refine ⟨a, e, ?_⟩
    rw [em, List.getElem?_append_left (List.getElem?_eq_some_iff.mp n).1]
    exact n
theorem VRs.extS (R : HR K g H h) (E : ExtS g H g' H') : ∀ {l : List Val} {xs : List V}, VRs K g H l xs → VRs K g' H' l xs
  | [], xs, q => by simpa only [VRs] using q
  | v :: l, xs, q => by
    simp only [VRs] at q ⊢
    obtain ⟨x, r, e, q1, q2⟩ := q
    exact ⟨x, r, e, VR.extS R E q1, VRs.extS R E q2⟩
end
theorem VR.ext (R : HR K g H h) (E : Ext g H g' H') {v : Val} {x : V} (q : VR K g H v x) : VR K g' H' v x := VR.extS R E.s q
theorem VRs.ext (R : HR K g H h) (E : Ext g H g' H') {l : List Val} {xs : List V} (q : VRs K g H l xs) : VRs K g' H' l xs := VRs.extS R E.s q
theorem SR.ext {l : Loc} {σ : L2.St} (S : SR K g H l σ) (R : HR K g H h) (E : Ext g H g' H') : SR K g' H' l σ :=
  ⟨S.len, fun i v e => by obtain ⟨x, e1, e2⟩ := S.at_ i v e; exact ⟨x, e1, e2.ext R E⟩⟩
end
section
variable {K : PySem.W.Frag} {g : Gh} {H : Hp}
theorem VRs.length : ∀ {l : List Val} {xs : List V}, VRs K g H l xs → l.length = xs.length
  | [], xs, q => by simp only [VRs] at q; subst q; rfl
  | v :: l, xs, q => by
    simp only [VRs] at q
    obtain ⟨x, r, e, _, q2⟩ := q
    subst e
    simp [VRs.length q2]
theorem VRs.get : ∀ {l : List Val} {xs : List V} {i : Nat} {v : Val}, VRs K g H l xs → l[i]? = some v → ∃ x, xs[i]? = some x ∧ VR K g H v x
  | [], xs, i, v, q, e => by simp at e
  | w :: l, xs, i, v, q, e => by
    simp only [VRs] at q
    obtain ⟨x, r, rfl, q1, q2⟩ := q
    cases i with
    | zero => simp at e; subst e; exact ⟨x, by simp, q1⟩
    | succ i =>
      obtain ⟨y, e1, e2⟩ := VRs.get (i := i) q2 (by simpa using e)
      exact ⟨y, by simpa using e1, e2⟩
theorem VRs.get' : ∀ {l : List Val} {xs : List V} {i : Nat} {x : V}, VRs K g H l xs → xs[i]? = some x → ∃ v, l[i]? = some v ∧ VR K g H v x
  | [], xs, i, v, q, e => by simp only [VRs] at q; subst q; simp at e
  | w :: l, xs, i, v, q, e => by
    simp only [VRs] at q
    obtain ⟨x, r, rfl, q1, q2⟩ := q
    cases i with
    | zero => simp at e; subst e; exact ⟨w, by simp, q1⟩
    | succ i =>
      obtain ⟨y, e1, e2⟩ := VRs.get' (i := i) q2 (by simpa using e)
      exact ⟨y, by simpa using e1, e2⟩
theorem VRs.append : ∀ {l l' : List Val} {xs xs' : List V}, VRs K g H l xs → VRs K g H l' xs' → VRs K g H (l ++ l') (xs ++ xs')
  | [], l', xs, xs', q, q' => by simp only [VRs] at q; subst q; simpa using q'
  | v :: l, l', xs, xs', q, q' => by
    simp only [VRs] at q
    obtain ⟨x, r, rfl, q1, q2⟩ := q
    show VRs K g H (v :: (l ++ l')) (x :: (r ++ xs'))
    simp only [VRs]
    exact ⟨x, _, rfl, q1, VRs.append q2 q'⟩
theorem VRs.nil : VRs K g H [] [] := by simp only [VRs]
theorem VRs.cons {v : Val} {x : V} {l : List Val} {xs : List V} (a : VR K g H v x) (b : VRs K g H l xs) : VRs K g H (v :: l) (x :: xs) := by
  simp only [VRs]; exact ⟨x, xs, rfl, a, b⟩
theorem VRs.one {v : Val} {x : V} (a : VR K g H v x) : VRs K g H [v] [x] := .cons a .nil
theorem VRs.take : ∀ {l : List Val} {xs : List V} (n : Nat), VRs K g H l xs → VRs K g H (l.take n) (xs.take n)
  | l, xs, 0, q => by simpa using VRs.nil
  | [], xs, n + 1, q => by simp only [VRs] at q; subst q; simpa using VRs.nil
  | v :: l, xs, n + 1, q => by
    simp only [VRs] at q
    obtain ⟨x, r, rfl, q1, q2⟩ := q
    exact .cons q1 (VRs.take n q2)
theorem VRs.drop : ∀ {l : List Val} {xs : List V} (n : Nat), VRs K g H l xs → VRs K g H (l.drop n) (xs.drop n)
  | l, xs, 0, q => by simpa using q
  | [], xs, n + 1, q => by simp only [VRs] at q; subst q; simpa using VRs.nil
  | v :: l, xs, n + 1, q => by
    simp only [VRs] at q
    obtain ⟨x, r, rfl, q1, q2⟩ := q
    simpa using VRs.drop n q2
theorem VRs.reverse : ∀ {l : List Val} {xs : List V}, VRs K g H l xs → VRs K g H l.reverse xs.reverse
  | [], xs, q => by simp only [VRs] at q; subst q; simpa using VRs.nil
  | v :: l, xs, q => by
    simp only [VRs] at q
    obtain ⟨x, r, rfl, q1, q2⟩ := q
    simp only [List.reverse_cons]
    exact (VRs.reverse q2).append (.one q1)
theorem VRs.set : ∀ {l : List Val} {xs : List V} (i : Nat) {v : Val} {x : V}, VRs K g H l xs → VR K g H v x → VRs K g H (l.set i v) (xs.set i x)
  | [], xs, i, v, x, q, p => by simp only [VRs] at q; subst q; simpa using VRs.nil
  | w :: l, xs, 0, v, x, q, p => by
    simp only [VRs] at q
    obtain ⟨y, r, rfl, q1, q2⟩ := q
    exact .cons p q2
  | w :: l, xs, i + 1, v, x, q, p => by
    simp only [VRs] at q
    obtain ⟨y, r, rfl, q1, q2⟩ := q
    exact .cons q1 (VRs.set i q2 p)
end
end GH
set_option Elab.async false
set_option linter.all false
set_option maxRecDepth 100000
set_option maxHeartbeats 1000000
set_option autoImplicit false
/-! What a piece of text yields, as a function over values and the small heap; the judgements. -/
namespace GH
open PySem PySem.Spec PyProof.Rows L2

structure Ex where
  c : List Nat
  fs : List (List Nat × Val)
inductive Res (α : Type) where
  | ok (a : α) (h : Hv)
  | exc (e : Ex) (h : Hv)
  | fail
def Res.bind {α β : Type} (r : Res α) (k : α → Hv → Res β) : Res β := match r with
  | .ok a h => k a h
  | .exc e h => .exc e h
  | .fail => .fail
@[simp] theorem Res.bind_ok {α β : Type} (a : α) (h : Hv) (k : α → Hv → Res β) : (Res.ok a h).bind k = k a h := rfl
@[simp] theorem Res.bind_exc {α β : Type} (e : Ex) (h : Hv) (k : α → Hv → Res β) : (Res.exc e h : Res α).bind k = .exc e h := rfl
@[simp] theorem Res.bind_fail {α β : Type} (k : α → Hv → Res β) : (Res.fail : Res α).bind k = .fail := rfl
abbrev DenG (α : Type) := Loc → Hv → Res α
abbrev Den := DenG Val
def ER (K : PySem.W.Frag) (g : Gh) (H : Hp) (e : Ex) (cls : Value) (d : Option Addr) : Prop := cls = .ref (clsA K e.c) ∧ match e.fs with
  | [] => d = none
  | p :: r => ∃ a gs, d = some a ∧ ¬ g.own a ∧ H a = some (.xd gs) ∧ FR K g H (p :: r) gs

def After {α β : Type} (K : PySem.W.Frag) (W : WX) (rel : Gh → Hp → α → β → Prop) (σ : L2.St) (g : Gh) (H : Hp) (Q : β → Hp → Prop) : Res α → Prop
  | .ok v h' => ∀ g' H' x, Ext g H g' H' → HR K g' H' h' → rel g' H' v x → Q x H'
  | .exc e h' => ∀ g' H' cls d, Ext g H g' H' → HR K g' H' h' → ER K g' H' e cls d → W cls d σ H'
  | .fail => False
section
variable {α β : Type} {K : PySem.W.Frag} {W : WX} {rel : Gh → Hp → α → β → Prop} {σ : L2.St} {g g1 : Gh} {H H1 : Hp} {Q : β → Hp → Prop}
theorem After.ext {r : Res α} (E : Ext g H g1 H1) (A : After K W rel σ g H Q r) : After K W rel σ g1 H1 Q r := by
  cases r with
  | ok v h => exact fun g' H' x E' => A g' H' x (E.trans E')
  | exc e h => exact fun g' H' c d E' => A g' H' c d (E.trans E')
  | fail => exact A
def tG (K : PySem.W.Frag) (W : WX) (rel : Gh → Hp → α → β → Prop) (d : DenG α) : L2.St → Hp → (β → Hp → Prop) → Prop :=
  fun σ H Q => ∃ g l h, SR K g H l σ ∧ HR K g H h ∧ After K W rel σ g H Q (d l h)
end
abbrev vr (K : PySem.W.Frag) : Gh → Hp → Val → V → Prop := fun g H v x => VR K g H v x
abbrev vrs (K : PySem.W.Frag) : Gh → Hp → List Val → List V → Prop := fun g H v x => VRs K g H v x
abbrev br : Gh → Hp → Bool → Bool → Prop := fun _ _ a b => a = b
/-- an expression yields what d says -/
def GE (X : Cx) (W : WX) (e : Expr) (d : Den) : Prop := PE X e (tG X.K W (vr X.K) d)
def GA (X : Cx) (W : WX) (es : List Expr) (d : DenG (List Val)) : Prop := PA X es (tG X.K W (vrs X.K) d)
def GT (X : Cx) (W : WX) (e : Expr) (d : DenG Bool) : Prop := PT X e (tG X.K W br d)
def GW (X : Cx) (W : WX) (e : Expr) (d : DenG Bool) : Prop := PW X e (tG X.K W br d)

section
variable {α β γ δ : Type} {K : PySem.W.Frag} {W : WX} {σ : L2.St} {g : Gh} {H : Hp} {l : Loc} {h : Hv}
/-- the first part of a bind -/
theorem tG_of {rel : Gh → Hp → α → β → Prop} {rel2 : Gh → Hp → γ → δ → Prop} {d : DenG α} {k : α → Hv → Res γ} {Q : δ → Hp → Prop} {R : β → Hp → Prop} (S : SR K g H l σ) (hr : HR K g H h) (A : After K W rel2 σ g H Q ((d l h).bind k))
    (hk : ∀ v h1 g1 H1 x, Ext g H g1 H1 → SR K g1 H1 l σ → HR K g1 H1 h1 → rel g1 H1 v x → After K W rel2 σ g1 H1 Q (k v h1) → R x H1) : tG K W rel d σ H R := by
  refine ⟨g, l, h, S, hr, ?_⟩
  cases e : d l h with
  | ok v h1 =>
    rw [e] at A
    intro g' H' x E R' r
    exact hk v h1 g' H' x E (S.ext hr E) R' r (After.ext E A)
  | exc x h1 =>
    rw [e] at A
    exact A
  | fail =>
    rw [e] at A
    exact A
end
theorem PE.imp {X : Cx} {e : Expr} {t t' : TE} (p : PE X e t) (h : ∀ σ H Q, t' σ H Q → t σ H Q) : PE X e t' := ⟨fun pins s σ H Q I q => p.run pins s σ H Q I (h σ H Q q)⟩
theorem PA.imp {X : Cx} {e : List Expr} {t t' : TA} (p : PA X e t) (h : ∀ σ H Q, t' σ H Q → t σ H Q) : PA X e t' := ⟨fun pos pins s σ H Q I q => p.run pos pins s σ H Q I (h σ H Q q)⟩
theorem PT.imp {X : Cx} {e : Expr} {t t' : TT} (p : PT X e t) (h : ∀ σ H Q, t' σ H Q → t σ H Q) : PT X e t' := ⟨fun pins s σ H Q I q => p.run pins s σ H Q I (h σ H Q q)⟩
theorem PW.imp {X : Cx} {e : Expr} {t t' : TT} (p : PW X e t) (h : ∀ σ H Q, t' σ H Q → t σ H Q) : PW X e t' := ⟨fun w pins s σ H Q I q => p.run w pins s σ H Q I (h σ H Q q)⟩
theorem PS.imp {X : Cx} {e : Stmt} {t t' : TS} (p : PS X e t) (h : ∀ D σ H, t' D σ H → t D σ H) : PS X e t' := ⟨fun pins s σ H D I q => p.run pins s σ H D I (h D σ H q)⟩
theorem PSs.imp {X : Cx} {e : List Stmt} {t t' : TS} (p : PSs X e t) (h : ∀ D σ H, t' D σ H → t D σ H) : PSs X e t' := ⟨fun pins s σ H D I q => p.run pins s σ H D I (h D σ H q)⟩

/-! ### names, constants -/
def dVar (i : Nat) : Den := fun l h => match l[i]? with
  | some (some v) => .ok v h
  | _ => .fail
def dC (v : Val) : Den := fun _ h => .ok v h
section
variable {X : Cx} {W : WX}
theorem ge_var (i : Nat) {x : Str} {pos : Pos} (hN : X.N[i]? = some x := by rfl) (hv : Vis X.env.scope x := by first | exact Or.inl rfl | exact Or.inr (Or.inl rfl) | exact Or.inr (Or.inr rfl)) (hd : (x == ("__debug__" : Str)) = false := by decide +kernel)
    (hcd : (x == ("__classdict__" : Str)) = false := by decide +kernel) : GE X W (.Name x pos) (dVar i) := by
  refine PE.imp (pe_var hN hv hd hcd) fun σ H Q ⟨g, l, h, S, R, A⟩ => ?_
  unfold dVar at A
  split at A
  · rename_i v e
    obtain ⟨x, e1, r⟩ := S.at_ i v e
    exact ⟨x, e1, A g H x Ext.refl R r⟩
  · exact A.elim
theorem ge_c {e : Expr} {v : Val} {x : V} (p : PE X e (tC x)) (r : ∀ g H, VR X.K g H v x) : GE X W e (dC v) :=
  PE.imp p fun σ H Q ⟨g, l, h, S, R, A⟩ => A g H x Ext.refl R (r g H)
theorem ge_int {i : Int} {j pos} : GE X W (.Constant (.int i) j pos) (dC (.int i)) := ge_c pe_int fun _ _ => by simp only [VR]
theorem ge_bl {b : Bool} {j pos} : GE X W (.Constant (.bool b) j pos) (dC (.bl b)) := ge_c pe_bl fun _ _ => by simp only [VR]
theorem ge_non {j pos} : GE X W (.Constant .none j pos) (dC .non) := ge_c pe_non fun _ _ => by simp only [VR]
theorem ge_str (s : List Nat) {x : Str} {j pos} (e : x = sOf s := by decide +kernel) : GE X W (.Constant (.str x) j pos) (dC (.str s)) := by
  subst e
  exact ge_c pe_str fun _ _ => by simp only [VR]

/-! ### arguments, displays -/
def dNil : DenG (List Val) := fun _ h => .ok [] h
def dCons (d : Den) (r : DenG (List Val)) : DenG (List Val) := fun l h => (d l h).bind fun v h1 => (r l h1).bind fun vs h2 => .ok (v :: vs) h2
theorem ga_nil : GA X W [] dNil := PA.imp pa_nil fun σ H Q ⟨g, l, h, S, R, A⟩ => A g H [] Ext.refl R VRs.nil
theorem ga_cons {e : Expr} {es : List Expr} {d : Den} {r : DenG (List Val)} (ha : GE X W e d) (hr : GA X W es r) (hs : starEach (e :: es) X.env = (false, eval e X.env) :: starEach es X.env := by rfl) : GA X W (e :: es) (dCons d r) := by
  refine PA.imp (pa_cons ha hr hs) fun σ H Q ⟨g, l, h, S, R, A⟩ => ?_
  refine tG_of S R A fun v h1 g1 H1 x E S1 R1 r1 A1 => ?_
  refine tG_of S1 R1 A1 fun vs h2 g2 H2 xs E2 S2 R2 r2 A2 => ?_
  exact A2 g2 H2 (x :: xs) Ext.refl R2 (.cons (r1.ext R1 E2) r2)
/-- a new object that is not tracked by us: a tuple, a list nobody writes -/
theorem HR.grow {K : PySem.W.Frag} {g : Gh} {H : Hp} {h : Hv} {p : Addr} {o : HO} (R : HR K g H h) (np : H p = none) : Ext g H g (upd H p o) ∧ HR K g (upd H p o) h := by
  have E : Ext g H g (upd H p o) := ⟨⟨[], by simp, by simp⟩, rfl, fun b u e hb => by rw [upd_ne (ne_of_none e np)]; exact e, fun b u e => ⟨u, by rw [upd_ne (ne_of_none e np)]; exact e⟩⟩
  refine ⟨E, R.len, R.nd, R.dis, fun a ha => ?_, fun i o' a e1 e2 => ?_⟩
  · obtain ⟨ob, e, mu⟩ := R.al a ha
    exact ⟨ob, by rw [upd_ne (ne_of_none e np)]; exact e, mu⟩
  · have q := R.obj i o' a e1 e2
    cases o' with
    | lst l => obtain ⟨xs, e, r⟩ := q; exact ⟨xs, by rw [upd_ne (ne_of_none e np)]; exact e, r.ext R E⟩
    | dic l => obtain ⟨xs, e, r⟩ := q; exact ⟨xs, by rw [upd_ne (ne_of_none e np)]; exact e, r.1, r.2.ext R E⟩
    | ins c f => obtain ⟨dx, gs, e, r⟩ := q; exact ⟨dx, gs, by rw [upd_ne (ne_of_none e np)]; exact e, r.1, r.2.ext R E⟩
/-- a new object that is tracked by us -/
theorem HR.push {K : PySem.W.Frag} {g : Gh} {H : Hp} {h : Hv} {p : Addr} {o : HO} {ob : Ob} (R : HR K g H h) (np : H p = none)
    (ok : OR K ⟨g.m ++ [p], g.r⟩ (upd H p o) p ob) : Ext g H ⟨g.m ++ [p], g.r⟩ (upd H p o) ∧ HR K ⟨g.m ++ [p], g.r⟩ (upd H p o) (h ++ [ob]) := by
  have E : Ext g H ⟨g.m ++ [p], g.r⟩ (upd H p o) := ⟨⟨[p], rfl, fun b hb => by rw [List.mem_singleton.mp hb]; exact np⟩, rfl, fun b u e hb => by rw [upd_ne (ne_of_none e np)]; exact e, fun b u e => ⟨u, by rw [upd_ne (ne_of_none e np)]; exact e⟩⟩
  have hp : ¬ g.own p := R.fresh np
  refine ⟨E, by simp [R.len], ?_, ?_, fun a ha => ?_, fun i o' a e1 e2 => ?_⟩
  · show (g.m ++ [p]).Nodup
    refine List.nodup_append.mpr ⟨R.nd, by simp, fun a ha b hb => ?_⟩
    rw [List.mem_singleton.mp hb]
    rintro rfl
    exact hp (.inl ha)
  · show ∀ a ∈ g.m ++ [p], a ∉ g.r
    intro a ha
    rcases List.mem_append.mp ha with ha | ha
    · exact R.dis a ha
    · rw [List.mem_singleton.mp ha]
      exact fun z => hp (.inr z)
  · obtain ⟨ob, e, mu⟩ := R.al a ha
    exact ⟨ob, by rw [upd_ne (ne_of_none e np)]; exact e, mu⟩
  · have e2 : (g.m ++ [p])[i]? = some a := e2
    by_cases hi : i < h.length
    · rw [List.getElem?_append_left hi] at e1
      rw [List.getElem?_append_left (by rw [R.len]; exact hi)] at e2
      have q := R.obj i o' a e1 e2
      cases o' with
      | lst l => obtain ⟨xs, e, r⟩ := q; exact ⟨xs, by rw [upd_ne (ne_of_none e np)]; exact e, r.ext R E⟩
      | dic l => obtain ⟨xs, e, r⟩ := q; exact ⟨xs, by rw [upd_ne (ne_of_none e np)]; exact e, r.1, r.2.ext R E⟩
      | ins c f => obtain ⟨dx, gs, e, r⟩ := q; exact ⟨dx, gs, by rw [upd_ne (ne_of_none e np)]; exact e, r.1, r.2.ext R E⟩
    · have hi' : i = h.length := by
        have := (List.getElem?_eq_some_iff.mp e1).1
        simp at this
        omega
      subst hi'
      rw [List.getElem?_append_right (Nat.le_refl _)] at e1
      rw [List.getElem?_append_right (by rw [R.len]; exact Nat.le_refl _)] at e2
      simp at e1
      rw [R.len] at e2
      simp at e2
      subst e1 e2
      exact ok
def lineN : Nat := 16777216
theorem line_ok {n : Nat} (h : n ≤ lineN) : n ≤ sizeLine := by rw [sizeLine_eq]; exact h
theorem line_lt {n : Nat} (h : n < lineN) : n < sizeLine := by rw [sizeLine_eq]; exact h
/-- the result stands in a new tuple -/
def mkTup (vs : List Val) (h : Hv) : Res Val := if vs.length ≤ lineN then .ok (.tup vs) h else .fail
def mkLst (vs : List Val) (h : Hv) : Res Val := if vs.length ≤ lineN then .ok (.lst vs) h else .fail
def mkRef (vs : List Val) (h : Hv) : Res Val := if vs.length ≤ lineN then .ok (.ref h.length) (h ++ [.lst vs]) else .fail
section
variable {K : PySem.W.Frag} {σ : L2.St} {g : Gh} {H : Hp} {h : Hv} {Q : VK} {vs : List Val} {xs : List V}
theorem mkTup_ok (R : HR K g H h) (r : VRs K g H vs xs) (A : After K W (vr K) σ g H Q (mkTup vs h)) : xs.length ≤ sizeLine ∧ ∀ p, H p = none → Q (.ref p) (upd H p (.tup xs)) := by
  unfold mkTup at A
  split at A
  · rename_i hl
    refine ⟨by rw [← r.length]; exact line_ok hl, fun p np => ?_⟩
    obtain ⟨E, R1⟩ := R.grow (o := .tup xs) np
    refine A g _ (.ref p) E R1 ?_
    simp only [VR]
    exact ⟨p, xs, rfl, SqT.of upd_same, r.ext R E⟩
  · exact A.elim
theorem mkLst_ok (R : HR K g H h) (r : VRs K g H vs xs) (A : After K W (vr K) σ g H Q (mkLst vs h)) : xs.length ≤ sizeLine ∧ ∀ p, H p = none → Q (.ref p) (upd H p (.lst xs)) := by
  unfold mkLst at A
  split at A
  · rename_i hl
    refine ⟨by rw [← r.length]; exact line_ok hl, fun p np => ?_⟩
    obtain ⟨E, R1⟩ := R.grow (o := .lst xs) np
    refine A g _ (.ref p) E R1 ?_
    simp only [VR]
    exact ⟨p, xs, rfl, R.fresh np, upd_same, r.ext R E⟩
  · exact A.elim
theorem mkRef_ok (R : HR K g H h) (r : VRs K g H vs xs) (A : After K W (vr K) σ g H Q (mkRef vs h)) : xs.length ≤ sizeLine ∧ ∀ p, H p = none → Q (.ref p) (upd H p (.lst xs)) := by
  unfold mkRef at A
  split at A
  · rename_i hl
    refine ⟨by rw [← r.length]; exact line_ok hl, fun p np => ?_⟩
    have E : Ext g H ⟨g.m ++ [p], g.r⟩ (upd H p (.lst xs)) := ⟨⟨[p], rfl, fun b hb => by rw [List.mem_singleton.mp hb]; exact np⟩, rfl, fun b u e hb => by rw [upd_ne (ne_of_none e np)]; exact e, fun b u e => ⟨u, by rw [upd_ne (ne_of_none e np)]; exact e⟩⟩
    obtain ⟨_, R1⟩ := R.push (o := .lst xs) (ob := .lst vs) np ⟨xs, upd_same, r.ext R E⟩
    refine A _ _ (.ref p) E R1 ?_
    simp only [VR]
    refine ⟨p, rfl, ?_⟩
    show (g.m ++ [p])[h.length]? = some p
    rw [← R.len]
    simp
  · exact A.elim
end
def dTup (r : DenG (List Val)) : Den := fun l h => (r l h).bind mkTup
def dLst (r : DenG (List Val)) : Den := fun l h => (r l h).bind mkLst
def dLstM (r : DenG (List Val)) : Den := fun l h => (r l h).bind mkRef
theorem ge_tup {es : List Expr} {r : DenG (List Val)} {k : Nat} {pos : Pos} (ha : GA X W es r) : GE X W (.Tuple es k pos) (dTup r) := by
  refine PE.imp (pe_tup ha) fun σ H Q ⟨g, l, h, S, R, A⟩ => ?_
  exact tG_of S R A fun v h1 g1 H1 x E S1 R1 r1 A1 => mkTup_ok R1 r1 A1
theorem ge_lst {es : List Expr} {r : DenG (List Val)} {pos : Pos} (ha : GA X W es r) : GE X W (.List es pos) (dLst r) := by
  refine PE.imp (pe_lst ha) fun σ H Q ⟨g, l, h, S, R, A⟩ => ?_
  exact tG_of S R A fun v h1 g1 H1 x E S1 R1 r1 A1 => mkLst_ok R1 r1 A1
theorem ge_lstM {es : List Expr} {r : DenG (List Val)} {pos : Pos} (ha : GA X W es r) : GE X W (.List es pos) (dLstM r) := by
  refine PE.imp (pe_lst ha) fun σ H Q ⟨g, l, h, S, R, A⟩ => ?_
  exact tG_of S R A fun v h1 g1 H1 x E S1 R1 r1 A1 => mkRef_ok R1 r1 A1

/-! ### operators: by values -/
/-- f on values, when the operands stand, is r -/
def OpG (X : Cx) (op : Value → Value → Sem Value) (f : Val → Val → Hv → Res Val) : Prop := ∃ r : R2, OpR X op r ∧
  ∀ (W : WX) (g : Gh) (H : Hp) (h : Hv) (σ : L2.St) (v u : Val) (x y : V) (Q : VK), HR X.K g H h → VR X.K g H v x → VR X.K g H u y → After X.K W (vr X.K) σ g H Q (f v u h) → r x y H Q
def dBin (f : Val → Val → Hv → Res Val) (da db : Den) : Den := fun l h => (da l h).bind fun v h1 => (db l h1).bind fun u h2 => f v u h2
theorem tBin {X : Cx} {W : WX} {f : Val → Val → Hv → Res Val} {da db : Den} {r : R2}
    (hr : ∀ (W : WX) (g : Gh) (H : Hp) (h : Hv) (σ : L2.St) (v u : Val) (x y : V) (Q : VK), HR X.K g H h → VR X.K g H v x → VR X.K g H u y → After X.K W (vr X.K) σ g H Q (f v u h) → r x y H Q)
    (σ : L2.St) (H : Hp) (Q : VK) (z : tG X.K W (vr X.K) (dBin f da db) σ H Q) : tOp r (tG X.K W (vr X.K) da) (tG X.K W (vr X.K) db) σ H Q := by
  obtain ⟨g, l, h, S, R, A⟩ := z
  refine tG_of S R A fun v h1 g1 H1 x E S1 R1 r1 A1 => ?_
  refine tG_of S1 R1 A1 fun u h2 g2 H2 y E2 S2 R2 r2 A2 => ?_
  exact hr W g2 H2 h2 σ v u x y Q R2 (r1.ext R1 E2) r2 A2
theorem ge_bin {op : Operator} {f : Val → Val → Hv → Res Val} {a b : Expr} {da db : Den} {pos : Pos} (ho : OpG X (binaryOp op) f) (ha : GE X W a da) (hb : GE X W b db) : GE X W (.BinOp a op b pos) (dBin f da db) := by
  obtain ⟨r, ho, hr⟩ := ho
  exact PE.imp (pe_op ho ha hb) fun σ H Q z => tBin hr σ H Q z
theorem ge_cmp {op : CmpOp} {f : Val → Val → Hv → Res Val} {a b : Expr} {da db : Den} {pos : Pos} (ho : OpG X (compareOp op) f) (ha : GE X W a da) (hb : GE X W b db) (hm : behindInMarks op b = false := by first | exact nomark _ | rfl) : GE X W (.Compare a [op] [b] pos) (dBin f da db) := by
  obtain ⟨r, ho, hr⟩ := ho
  exact PE.imp (pe_cmpR ho ha hb hm) fun σ H Q z => tBin hr σ H Q z
def resB (r : Res Val) : Res Bool := r.bind fun v h => match v with
  | .bl b => .ok b h
  | _ => .fail
/-- an expression that yields a bool, as a test -/
def dB (d : Den) : DenG Bool := fun l h => resB (d l h)
theorem tB_of {d : Den} {σ : L2.St} {H : Hp} {Q : Bool → Hp → Prop} (z : tG X.K W br (dB d) σ H Q) : tG X.K W (vr X.K) d σ H fun x H1 => ∃ c, x = .bl c ∧ Q c H1 := by
  obtain ⟨g, l, h, S, R, A⟩ := z
  refine tG_of S R (A : After X.K W br σ g H Q ((d l h).bind _)) fun v h1 g1 H1 x E S1 R1 r1 A1 => ?_
  cases v with
  | bl b =>
    simp only [VR] at r1
    exact ⟨b, r1, A1 g1 H1 b Ext.refl R1 rfl⟩
  | _ => exact A1.elim
theorem gt_cmp {op : CmpOp} {f : Val → Val → Hv → Res Val} {a b : Expr} {da db : Den} {pos : Pos} (ho : OpG X (compareOp op) f) (ha : GE X W a da) (hb : GE X W b db) (hm : behindInMarks op b = false := by first | exact nomark _ | rfl) : GT X W (.Compare a [op] [b] pos) (dB (dBin f da db)) := by
  obtain ⟨r, ho, hr⟩ := ho
  exact PT.imp (pt_cmpR ho ha hb hm) fun σ H Q z => tBin hr σ H _ (tB_of z)
theorem gt_val {e : Expr} {d : Den} (he : GE X W e d) (hs : ∀ whole, isTrue e X.env whole = (do let v ← whole; standAt e.pos; holding [v] (truthy v)) := by intro _; rfl) : GT X W e (dB d) :=
  PT.imp (pt_val he hs) fun σ H Q z => tB_of z

/-! ### and, or, not; if-else -/
def dAnd (a b : DenG Bool) : DenG Bool := fun l h => (a l h).bind fun c h1 => if c then b l h1 else .ok false h1
def dOr (a b : DenG Bool) : DenG Bool := fun l h => (a l h).bind fun c h1 => if c then .ok true h1 else b l h1
def dNot (a : DenG Bool) : DenG Bool := fun l h => (a l h).bind fun c h1 => .ok (!c) h1
theorem gw_and1 {a : Expr} {d : DenG Bool} {pos : Pos} (ha : GT X W a d) : GW X W (.BoolOp .And [a] pos) d := pw_and1 ha
theorem gw_or1 {a : Expr} {d : DenG Bool} {pos : Pos} (ha : GT X W a d) : GW X W (.BoolOp .Or [a] pos) d := pw_or1 ha
theorem gw_and {a b : Expr} {rest : List Expr} {da db : DenG Bool} {pos : Pos} (ha : GT X W a da) (hb : GW X W (.BoolOp .And (b :: rest) pos) db) : GW X W (.BoolOp .And (a :: b :: rest) pos) (dAnd da db) := by
  refine PW.imp (pw_and ha hb) fun σ H Q ⟨g, l, h, S, R, A⟩ => ?_
  refine tG_of S R A fun v h1 g1 H1 x E S1 R1 r1 A1 => ?_
  obtain rfl : v = x := r1
  cases v with
  | true => exact ⟨g1, l, h1, S1, R1, A1⟩
  | false => exact A1 g1 H1 false Ext.refl R1 rfl
theorem gw_or {a b : Expr} {rest : List Expr} {da db : DenG Bool} {pos : Pos} (ha : GT X W a da) (hb : GW X W (.BoolOp .Or (b :: rest) pos) db) : GW X W (.BoolOp .Or (a :: b :: rest) pos) (dOr da db) := by
  refine PW.imp (pw_or ha hb) fun σ H Q ⟨g, l, h, S, R, A⟩ => ?_
  refine tG_of S R A fun v h1 g1 H1 x E S1 R1 r1 A1 => ?_
  obtain rfl : v = x := r1
  cases v with
  | true => exact A1 g1 H1 true Ext.refl R1 rfl
  | false => exact ⟨g1, l, h1, S1, R1, A1⟩
theorem GW.pt {e : Expr} {d : DenG Bool} (h : GW X W e d) : GT X W e d := PW.pt h
theorem gt_not {a : Expr} {d : DenG Bool} {pos : Pos} (ha : GT X W a d) : GT X W (.UnaryOp .Not a pos) (dNot d) := by
  refine PT.imp (pt_not ha) fun σ H Q ⟨g, l, h, S, R, A⟩ => ?_
  refine tG_of S R A fun v h1 g1 H1 x E S1 R1 r1 A1 => ?_
  obtain rfl : v = x := r1
  exact A1 g1 H1 (!v) Ext.refl R1 rfl
def dIf (c : DenG Bool) (a b : Den) : Den := fun l h => (c l h).bind fun t h1 => if t then a l h1 else b l h1
theorem ge_if {c a b : Expr} {dc : DenG Bool} {da db : Den} {pos : Pos} (hc : GT X W c dc) (ha : GE X W a da) (hb : GE X W b db) : GE X W (.IfExp c a b pos) (dIf dc da db) := by
  refine PE.imp (pe_ifExp hc ha hb) fun σ H Q ⟨g, l, h, S, R, A⟩ => ?_
  refine tG_of S R A fun v h1 g1 H1 x E S1 R1 r1 A1 => ?_
  obtain rfl : v = x := r1
  cases v with
  | true => exact ⟨g1, l, h1, S1, R1, A1⟩
  | false => exact ⟨g1, l, h1, S1, R1, A1⟩
/-- and, or, not as values (bools all) -/
def dAndV (a b : Den) : Den := fun l h => (a l h).bind fun v h1 => match v with
  | .bl c => if c then b l h1 else .ok (.bl false) h1
  | _ => .fail
def dOrV (a b : Den) : Den := fun l h => (a l h).bind fun v h1 => match v with
  | .bl c => if c then .ok (.bl true) h1 else b l h1
  | _ => .fail
def dNotV (a : Den) : Den := fun l h => (a l h).bind fun v h1 => match v with
  | .bl c => .ok (.bl (!c)) h1
  | _ => .fail
theorem ge_one {op} {a : Expr} {d : Den} {pos : Pos} (ha : GE X W a d) : GE X W (.BoolOp op [a] pos) d := pe_one ha
theorem ge_and {a b : Expr} {rest : List Expr} {da db : Den} {pos : Pos} (ha : GE X W a da) (hb : GE X W (.BoolOp .And (b :: rest) pos) db) : GE X W (.BoolOp .And (a :: b :: rest) pos) (dAndV da db) := by
  refine PE.imp (pe_and ha hb) fun σ H Q ⟨g, l, h, S, R, A⟩ => ?_
  refine tG_of S R A fun v h1 g1 H1 x E S1 R1 r1 A1 => ?_
  cases v with
  | bl c =>
    simp only [VR] at r1
    refine ⟨c, r1, ?_⟩
    cases c with
    | true => exact ⟨g1, l, h1, S1, R1, A1⟩
    | false => exact A1 g1 H1 (.bl false) Ext.refl R1 (by simp only [VR])
  | _ => exact A1.elim
theorem ge_or {a b : Expr} {rest : List Expr} {da db : Den} {pos : Pos} (ha : GE X W a da) (hb : GE X W (.BoolOp .Or (b :: rest) pos) db) : GE X W (.BoolOp .Or (a :: b :: rest) pos) (dOrV da db) := by
  refine PE.imp (pe_or ha hb) fun σ H Q ⟨g, l, h, S, R, A⟩ => ?_
  refine tG_of S R A fun v h1 g1 H1 x E S1 R1 r1 A1 => ?_
  cases v with
  | bl c =>
    simp only [VR] at r1
    refine ⟨c, r1, ?_⟩
    cases c with
    | true => exact A1 g1 H1 (.bl true) Ext.refl R1 (by simp only [VR])
    | false => exact ⟨g1, l, h1, S1, R1, A1⟩
  | _ => exact A1.elim
theorem ge_not {a : Expr} {d : Den} {pos : Pos} (ha : GE X W a d) : GE X W (.UnaryOp .Not a pos) (dNotV d) := by
  refine PE.imp (pe_not ha) fun σ H Q ⟨g, l, h, S, R, A⟩ => ?_
  refine tG_of S R A fun v h1 g1 H1 x E S1 R1 r1 A1 => ?_
  cases v with
  | bl c =>
    simp only [VR] at r1
    exact ⟨c, r1, A1 g1 H1 _ Ext.refl R1 (by simp only [VR])⟩
  | _ => exact A1.elim
end

/-! ### statements -/
inductive SRes where
  | nx (l : Loc) (h : Hv) | rt (v : Val) (h : Hv) | bk (l : Loc) (h : Hv) | ct (l : Loc) (h : Hv) | exc (e : Ex) (l : Loc) (h : Hv) | fail
abbrev Stm := Loc → Hv → SRes
def AfterS (K : PySem.W.Frag) (W : WX) (g : Gh) (H : Hp) (D : Ends) : SRes → Prop
  | .nx l' h' => ∀ g' H' σ', Ext g H g' H' → HR K g' H' h' → SR K g' H' l' σ' → D.nx σ' H'
  | .bk l' h' => ∀ g' H' σ', Ext g H g' H' → HR K g' H' h' → SR K g' H' l' σ' → D.bk σ' H'
  | .ct l' h' => ∀ g' H' σ', Ext g H g' H' → HR K g' H' h' → SR K g' H' l' σ' → D.ct σ' H'
  | .rt v h' => ∀ g' H' x, Ext g H g' H' → HR K g' H' h' → VR K g' H' v x → D.rt x H'
  | .exc e l' h' => ∀ g' H' σ' cls d, Ext g H g' H' → HR K g' H' h' → SR K g' H' l' σ' → ER K g' H' e cls d → W cls d σ' H'
  | .fail => False
theorem AfterS.ext {K : PySem.W.Frag} {W : WX} {g g1 : Gh} {H H1 : Hp} {D : Ends} {r : SRes} (E : Ext g H g1 H1) (A : AfterS K W g H D r) : AfterS K W g1 H1 D r := by
  cases r with
  | nx l h => exact fun g' H' x E' => A g' H' x (E.trans E')
  | bk l h => exact fun g' H' x E' => A g' H' x (E.trans E')
  | ct l h => exact fun g' H' x E' => A g' H' x (E.trans E')
  | rt l h => exact fun g' H' x E' => A g' H' x (E.trans E')
  | exc e l h => exact fun g' H' s c d E' => A g' H' s c d (E.trans E')
  | fail => exact A
def tS (K : PySem.W.Frag) (W : WX) (d : Stm) : TS := fun D σ H => ∃ g l h, SR K g H l σ ∧ HR K g H h ∧ AfterS K W g H D (d l h)
def GS (X : Cx) (W : WX) (st : Stmt) (d : Stm) : Prop := PS X st (tS X.K W d)
def GSs (X : Cx) (W : WX) (st : List Stmt) (d : Stm) : Prop := PSs X st (tS X.K W d)
/-- from an expression's result on -/
def Res.to {α : Type} (r : Res α) (l : Loc) (k : α → Hv → SRes) : SRes := match r with
  | .ok v h => k v h
  | .exc e h => .exc e l h
  | .fail => .fail
@[simp] theorem Res.to_ok {α : Type} (a : α) (h : Hv) (l : Loc) (k : α → Hv → SRes) : (Res.ok a h).to l k = k a h := rfl
@[simp] theorem Res.to_exc {α : Type} (e : Ex) (h : Hv) (l : Loc) (k : α → Hv → SRes) : (Res.exc e h : Res α).to l k = .exc e l h := rfl
@[simp] theorem Res.to_fail {α : Type} (l : Loc) (k : α → Hv → SRes) : (Res.fail : Res α).to l k = .fail := rfl
theorem tG_to {α β : Type} {K : PySem.W.Frag} {W : WX} {σ : L2.St} {g : Gh} {H : Hp} {l : Loc} {h : Hv} {rel : Gh → Hp → α → β → Prop} {d : DenG α} {k : α → Hv → SRes} {D : Ends} {R : β → Hp → Prop} (S : SR K g H l σ) (hr : HR K g H h) (A : AfterS K W g H D ((d l h).to l k))
    (hk : ∀ v h1 g1 H1 x, Ext g H g1 H1 → SR K g1 H1 l σ → HR K g1 H1 h1 → rel g1 H1 v x → AfterS K W g1 H1 D (k v h1) → R x H1) : tG K W rel d σ H R := by
  refine ⟨g, l, h, S, hr, ?_⟩
  cases e : d l h with
  | ok v h1 =>
    rw [e] at A
    intro g' H' x E R' r
    exact hk v h1 g' H' x E (S.ext hr E) R' r (AfterS.ext E A)
  | exc x h1 =>
    rw [e] at A
    intro g' H' c d' E R' r
    exact A g' H' σ c d' E R' (S.ext hr E) r
  | fail =>
    rw [e] at A
    exact A
def sNext : Stm := fun l h => .nx l h
def SRes.andThen (r : SRes) (k : Stm) : SRes := match r with
  | .nx l h => k l h
  | r => r
@[simp] theorem SRes.andThen_nx (l : Loc) (h : Hv) (k : Stm) : (SRes.nx l h).andThen k = k l h := rfl
@[simp] theorem SRes.andThen_rt (v : Val) (h : Hv) (k : Stm) : (SRes.rt v h).andThen k = .rt v h := rfl
@[simp] theorem SRes.andThen_bk (l : Loc) (h : Hv) (k : Stm) : (SRes.bk l h).andThen k = .bk l h := rfl
@[simp] theorem SRes.andThen_ct (l : Loc) (h : Hv) (k : Stm) : (SRes.ct l h).andThen k = .ct l h := rfl
@[simp] theorem SRes.andThen_exc (e : Ex) (l : Loc) (h : Hv) (k : Stm) : (SRes.exc e l h).andThen k = .exc e l h := rfl
@[simp] theorem SRes.andThen_fail (k : Stm) : SRes.fail.andThen k = .fail := rfl
def sSeq (a b : Stm) : Stm := fun l h => (a l h).andThen b
def sRet (d : Den) : Stm := fun l h => (d l h).to l .rt
def sRetN : Stm := fun _ h => .rt .non h
def sExpr (d : Den) : Stm := fun l h => (d l h).to l fun _ h1 => .nx l h1
def sIf (c : DenG Bool) (a b : Stm) : Stm := fun l h => (c l h).to l fun t h1 => if t then a l h1 else b l h1
def sBreak : Stm := fun l h => .bk l h
def sCont : Stm := fun l h => .ct l h
section
variable {X : Cx} {W : WX}
theorem gs_nil : GSs X W [] sNext := PSs.imp pss_nil fun D σ H ⟨g, l, h, S, R, A⟩ => A g H σ Ext.refl R S
theorem gs_cons {st : Stmt} {rest : List Stmt} {a b : Stm} (h1 : GS X W st a) (h2 : GSs X W rest b) : GSs X W (st :: rest) (sSeq a b) := by
  refine PSs.imp (pss_cons h1 h2) fun D σ H ⟨g, l, h, S, R, A⟩ => ⟨g, l, h, S, R, ?_⟩
  unfold sSeq at A
  cases e : a l h with
  | nx l1 h1 =>
    rw [e] at A
    exact fun g' H' σ' E R' S' => ⟨g', l1, h1, S', R', AfterS.ext E A⟩
  | bk l1 h1 => rw [e] at A; exact A
  | ct l1 h1 => rw [e] at A; exact A
  | rt l1 h1 => rw [e] at A; exact A
  | exc x l1 h1 => rw [e] at A; exact A
  | fail => rw [e] at A; exact A
theorem gs_one {st : Stmt} {a : Stm} (h1 : GS X W st a) : GSs X W [st] a := pss_one h1
theorem gs_ret {e : Expr} {d : Den} {pos : Pos} (he : GE X W e d) : GS X W (.Return (some e) pos) (sRet d) := by
  refine PS.imp (ps_ret he) fun D σ H ⟨g, l, h, S, R, A⟩ => ?_
  exact tG_to S R A fun v h1 g1 H1 x E S1 R1 r1 A1 => A1 g1 H1 x Ext.refl R1 r1
theorem gs_retN {pos : Pos} : GS X W (.Return none pos) sRetN := PS.imp ps_retN fun D σ H ⟨g, l, h, S, R, A⟩ => A g H .non Ext.refl R (by simp only [VR])
theorem gs_expr {e : Expr} {d : Den} {pos : Pos} (he : GE X W e d) (hs : swapsWith e none pos.line X.env = pure false := by rfl) : GS X W (.Expr e pos) (sExpr d) := by
  refine PS.imp (ps_expr he hs) fun D σ H ⟨g, l, h, S, R, A⟩ => ?_
  exact tG_to S R A fun v h1 g1 H1 x E S1 R1 r1 A1 => A1 g1 H1 σ Ext.refl R1 S1
theorem gs_if {c : Expr} {a b : List Stmt} {dc : DenG Bool} {da db : Stm} {pos : Pos} (hc : GT X W c dc) (ha : GSs X W a da) (hb : GSs X W b db) : GS X W (.If c a b pos) (sIf dc da db) := by
  refine PS.imp (ps_if hc ha hb) fun D σ H ⟨g, l, h, S, R, A⟩ => ?_
  refine tG_to S R A fun v h1 g1 H1 x E S1 R1 r1 A1 => ?_
  obtain rfl : v = x := r1
  cases v with
  | true => exact ⟨g1, l, h1, S1, R1, A1⟩
  | false => exact ⟨g1, l, h1, S1, R1, A1⟩
theorem gs_pass {pos : Pos} : GS X W (.Pass pos) sNext := PS.imp ps_pass fun D σ H ⟨g, l, h, S, R, A⟩ => A g H σ Ext.refl R S
theorem gs_break {pos : Pos} : GS X W (.Break pos) sBreak := PS.imp ps_break fun D σ H ⟨g, l, h, S, R, A⟩ => A g H σ Ext.refl R S
theorem gs_continue {pos : Pos} : GS X W (.Continue pos) sCont := PS.imp ps_continue fun D σ H ⟨g, l, h, S, R, A⟩ => A g H σ Ext.refl R S

/-! ### targets -/
inductive TRes where
  | ok (l : Loc) (h : Hv) | exc (e : Ex) (l : Loc) (h : Hv) | fail
abbrev Tg := Val → Loc → Hv → TRes
abbrev Tgs := List Val → Loc → Hv → TRes
def AfterT (K : PySem.W.Frag) (W : WX) (g : Gh) (H : Hp) (Q : L2.St → Hp → Prop) : TRes → Prop
  | .ok l' h' => ∀ g' H' σ', Ext g H g' H' → HR K g' H' h' → SR K g' H' l' σ' → Q σ' H'
  | .exc e l' h' => ∀ g' H' σ' cls d, Ext g H g' H' → HR K g' H' h' → SR K g' H' l' σ' → ER K g' H' e cls d → W cls d σ' H'
  | .fail => False
theorem AfterT.ext {K : PySem.W.Frag} {W : WX} {g g1 : Gh} {H H1 : Hp} {D : L2.St → Hp → Prop} {r : TRes} (E : Ext g H g1 H1) (A : AfterT K W g H D r) : AfterT K W g1 H1 D r := by
  cases r with
  | ok l h => exact fun g' H' x E' => A g' H' x (E.trans E')
  | exc e l h => exact fun g' H' s c d E' => A g' H' s c d (E.trans E')
  | fail => exact A
def tT (K : PySem.W.Frag) (W : WX) (d : Tg) : TG := fun x σ H Q => ∃ g l h v, SR K g H l σ ∧ HR K g H h ∧ VR K g H v x ∧ AfterT K W g H Q (d v l h)
def tTs (K : PySem.W.Frag) (W : WX) (d : Tgs) : TGs := fun x σ H Q => ∃ g l h v, SR K g H l σ ∧ HR K g H h ∧ VRs K g H v x ∧ AfterT K W g H Q (d v l h)
def GG (X : Cx) (W : WX) (tg : Expr) (d : Tg) : Prop := PG X tg (tT X.K W d)
def GGs (X : Cx) (W : WX) (tg : List Expr) (d : Tgs) : Prop := PGs X tg (tTs X.K W d)
theorem PG.imp {X : Cx} {e : Expr} {t t' : TG} (p : PG X e t) (h : ∀ x σ H Q, t' x σ H Q → t x σ H Q) : PG X e t' := ⟨fun pins s σ H v u Q I r q => p.run pins s σ H v u Q I r (h v σ H Q q)⟩
theorem PGs.imp {X : Cx} {e : List Expr} {t t' : TGs} (p : PGs X e t) (h : ∀ x σ H Q, t' x σ H Q → t x σ H Q) : PGs X e t' := ⟨fun pins s σ H v u Q I r q => p.run pins s σ H v u Q I r (h v σ H Q q)⟩
def gName (i : Nat) : Tg := fun v l h => .ok (l.set i (some v)) h
theorem SR.set {K : PySem.W.Frag} {g : Gh} {H : Hp} {l : Loc} {σ : L2.St} {v : Val} {x : V} (S : SR K g H l σ) (i : Nat) (r : VR K g H v x) : SR K g H (l.set i (some v)) (σ.set i (some x)) := by
  refine ⟨by simp [S.len], fun j u e => ?_⟩
  by_cases hj : i = j
  · subst hj
    have hi : i < l.length := by
      have := (List.getElem?_eq_some_iff.mp e).1
      simpa using this
    rw [List.getElem?_set_self hi] at e
    cases e
    exact ⟨x, by rw [List.getElem?_set_self (by rw [← S.len]; exact hi)], r⟩
  · rw [List.getElem?_set_ne hj] at e
    obtain ⟨y, e1, e2⟩ := S.at_ j u e
    exact ⟨y, by rw [List.getElem?_set_ne hj]; exact e1, e2⟩
theorem gg_name (i : Nat) {x : Str} {pos : Pos} (hN : X.N.Nodup) (hi : X.N[i]? = some x := by rfl) (hx : L2.Loc X.env.scope x := by first | exact Or.inl rfl | exact Or.inr rfl) (hf : X.fn x = true ∨ X.env.scope.names.lookup x = some .local := by first | exact .inl rfl | exact .inr rfl) : GG X W (.Name x pos) (gName i) := by
  refine PG.imp (pg_name hN hi hx hf) fun y σ H Q ⟨g, l, h, v, S, R, r, A⟩ => ?_
  exact A g H _ Ext.refl R (S.set i r)
def gsNil : Tgs := fun vs l h => match vs with
  | [] => .ok l h
  | _ => .fail
def TRes.bind (r : TRes) (k : Loc → Hv → TRes) : TRes := match r with
  | .ok l h => k l h
  | .exc e l h => .exc e l h
  | .fail => .fail
@[simp] theorem TRes.bind_ok (l : Loc) (h : Hv) (k : Loc → Hv → TRes) : (TRes.ok l h).bind k = k l h := rfl
@[simp] theorem TRes.bind_exc (e : Ex) (l : Loc) (h : Hv) (k : Loc → Hv → TRes) : (TRes.exc e l h).bind k = .exc e l h := rfl
@[simp] theorem TRes.bind_fail (k : Loc → Hv → TRes) : TRes.fail.bind k = .fail := rfl
def gsCons (t : Tg) (u : Tgs) : Tgs := fun vs l h => match vs with
  | v :: r => (t v l h).bind fun l1 h1 => u r l1 h1
  | [] => .fail
theorem ggs_nil : GGs X W [] gsNil := by
  refine PGs.imp pgs_nil fun y σ H Q ⟨g, l, h, v, S, R, r, A⟩ => ?_
  cases v with
  | nil =>
    simp only [VRs] at r
    exact ⟨r, A g H σ Ext.refl R S⟩
  | cons v vs => exact A.elim
theorem ggs_cons {e : Expr} {es : List Expr} {t : Tg} {u : Tgs} (h1 : GG X W e t) (h2 : GGs X W es u)
    (hs : (assignEach (e :: es) X.env).map (·.2) = assign e X.env :: (assignEach es X.env).map (·.2) := by rfl) : GGs X W (e :: es) (gsCons t u) := by
  refine PGs.imp (pgs_cons h1 h2 hs) fun y σ H Q ⟨g, l, h, v, S, R, r, A⟩ => ?_
  cases v with
  | nil => exact A.elim
  | cons v vs =>
    simp only [VRs] at r
    obtain ⟨x, r', rfl, q1, q2⟩ := r
    refine ⟨x, r', rfl, g, l, h, v, S, R, q1, ?_⟩
    simp only [gsCons] at A
    cases e : t v l h with
    | ok l1 h1 =>
      rw [e] at A
      exact fun g' H' σ' E R' S' => ⟨g', l1, h1, vs, S', R', q2.ext R E, AfterT.ext E A⟩
    | exc x l1 h1 => rw [e] at A; exact A
    | fail => rw [e] at A; exact A
def gTup (n : Nat) (t : Tgs) : Tg := fun v l h => match v with
  | .tup vs => if vs.length = n then t vs l h else .fail
  | _ => .fail
theorem gg_tup {es : List Expr} {k : Nat} {t : Tgs} {n : Nat} {pos : Pos} (hc : X.calm = true) (h : GGs X W es t)
    (hn : (assignEach es X.env).length = n := by rfl) (hst : (assignEach es X.env).findIdx? (·.1) = none := by rfl) : GG X W (.Tuple es k pos) (gTup n t) := by
  refine PG.imp (pg_tup hc h hn hst) fun y σ H Q ⟨g, l, h, v, S, R, r, A⟩ => ?_
  cases v with
  | tup vs =>
    simp only [VR] at r
    obtain ⟨a, xs, rfl, q1, q2⟩ := r
    unfold gTup at A
    simp only at A
    split at A
    · rename_i hl
      exact ⟨a, xs, rfl, q1, by rw [← q2.length]; exact hl, g, l, h, vs, S, R, q2, A⟩
    · exact A.elim
  | _ => exact A.elim
def TRes.s (r : TRes) : SRes := match r with
  | .ok l h => .nx l h
  | .exc e l h => .exc e l h
  | .fail => .fail
@[simp] theorem TRes.s_ok (l : Loc) (h : Hv) : (TRes.ok l h).s = .nx l h := rfl
@[simp] theorem TRes.s_exc (e : Ex) (l : Loc) (h : Hv) : (TRes.exc e l h).s = .exc e l h := rfl
@[simp] theorem TRes.s_fail : TRes.fail.s = .fail := rfl
theorem AfterT.of_s {K : PySem.W.Frag} {W : WX} {g : Gh} {H : Hp} {D : Ends} {r : TRes} (A : AfterS K W g H D r.s) : AfterT K W g H D.nx r := by
  cases r <;> exact A
def sAsg (d : Den) (t : Tg) : Stm := fun l h => (d l h).to l fun v h1 => (t v l h1).s
theorem gs_asg {tg e : Expr} {d : Den} {t : Tg} {pos : Pos} (he : GE X W e d) (hg : GG X W tg t) (hs : swapsWithSole [tg] e pos.line X.env = pure false := by rfl) (hw : swappedStores [tg] e X.env = pure none := by rfl)
    (h1 : (assignEach [tg] X.env).map (·.2) = [assign tg X.env] := by rfl) : GS X W (.Assign [tg] e pos) (sAsg d t) := by
  refine PS.imp (ps_asg he hg hs hw h1) fun D σ H ⟨g, l, h, S, R, A⟩ => ?_
  exact tG_to S R A fun v h1 g1 H1 x E S1 R1 r1 A1 => ⟨g1, l, h1, v, S1, R1, r1, AfterT.of_s A1⟩
theorem gs_set (i : Nat) {x : Str} {e : Expr} {d : Den} {pos pos' : Pos} (he : GE X W e d) (hN : X.N.Nodup) (hi : X.N[i]? = some x := by rfl) (hx : L2.Loc X.env.scope x := by first | exact Or.inl rfl | exact Or.inr rfl)
    (hs : swapsWith e (some (.Name x pos')) pos.line X.env = pure false := by rfl) (hf : X.fn x = true ∨ X.env.scope.names.lookup x = some .local := by first | exact .inl rfl | exact .inr rfl) : GS X W (.Assign [.Name x pos'] e pos) (sAsg d (gName i)) := by
  refine PS.imp (ps_set hN hi hx he hs hf) fun D σ H ⟨g, l, h, S, R, A⟩ => ?_
  exact tG_to S R A fun v h1 g1 H1 x E S1 R1 r1 A1 => A1 g1 H1 _ Ext.refl R1 (S1.set i r1)
end
end GH
set_option Elab.async false
set_option linter.all false
set_option maxRecDepth 100000
set_option maxHeartbeats 1000000
set_option autoImplicit false
/-! Operators, subscripts, lengths, truth, lists and dicts: what they yield on values. -/
namespace GH
open PySem PySem.Spec PyProof.Rows L2

/-! ### reading sequences -/
def lstOf (h : Hv) : Val → Option (List Val)
  | .lst l => some l
  | .ref i => match h[i]? with
    | some (.lst l) => some l
    | _ => none
  | _ => none
def seqOf (h : Hv) : Val → Option (List Val)
  | .tup l => some l
  | v => lstOf h v
def dicOf (h : Hv) : Val → Option (List (Val × Val))
  | .ref i => match h[i]? with
    | some (.dic l) => some l
    | _ => none
  | _ => none
section
variable {K : PySem.W.Frag} {g : Gh} {H : Hp} {h : Hv} {v : Val} {x : V} {l : List Val}
theorem ref_at (R : HR K g H h) {i : Nat} {o : Ob} {a : Addr} (e : h[i]? = some o) (hm : g.m[i]? = some a) : OR K g H a o := R.obj i o a e hm
theorem lstOf_ok (R : HR K g H h) (r : VR K g H v x) (e : lstOf h v = some l) : ∃ a xs, x = .ref a ∧ H a = some (.lst xs) ∧ VRs K g H l xs := by
  cases v with
  | lst k =>
    simp only [lstOf, Option.some.injEq] at e
    subst e
    simp only [VR] at r
    obtain ⟨a, xs, e, _, s, r⟩ := r
    exact ⟨a, xs, e, s, r⟩
  | ref i =>
    simp only [lstOf] at e
    split at e
    · rename_i l' hl
      cases e
      simp only [VR] at r
      obtain ⟨a, rfl, hm⟩ := r
      obtain ⟨xs, e1, e2⟩ := ref_at R hl hm
      exact ⟨a, xs, rfl, e1, e2⟩
    · cases e
  | _ => simp [lstOf] at e
theorem seqOf_ok (R : HR K g H h) (r : VR K g H v x) (e : seqOf h v = some l) : ∃ a xs, x = .ref a ∧ (SqL K H a xs ∨ SqT K H a xs) ∧ VRs K g H l xs := by
  cases v with
  | tup k =>
    simp only [seqOf, Option.some.injEq] at e
    subst e
    simp only [VR] at r
    obtain ⟨a, xs, e, s, r⟩ := r
    exact ⟨a, xs, e, .inr s, r⟩
  | lst k => obtain ⟨a, xs, e, s, r⟩ := lstOf_ok R r (by simpa [seqOf] using e); exact ⟨a, xs, e, .inl (SqL.of s), r⟩
  | ref i => obtain ⟨a, xs, e, s, r⟩ := lstOf_ok R r (by simpa [seqOf] using e); exact ⟨a, xs, e, .inl (SqL.of s), r⟩
  | _ => simp [seqOf, lstOf] at e
theorem dicOf_ok (R : HR K g H h) (r : VR K g H v x) {l : List (Val × Val)} (e : dicOf h v = some l) : ∃ i a ks, v = .ref i ∧ x = .ref a ∧ g.m[i]? = some a ∧ h[i]? = some (.dic l) ∧ H a = some (.dK ks) ∧ DR K g H l ks := by
  cases v with
  | ref i =>
    simp only [dicOf] at e
    split at e
    · rename_i l' hl
      cases e
      simp only [VR] at r
      obtain ⟨a, rfl, hm⟩ := r
      obtain ⟨ks, e1, e2⟩ := ref_at R hl hm
      exact ⟨i, a, ks, rfl, rfl, hm, hl, e1, e2⟩
    · cases e
  | _ => simp [dicOf] at e
/-- an object of ours is written -/
theorem HR.write (R : HR K g H h) {i : Nat} {a : Addr} {ob : Ob} {o' : HO} (hm : g.m[i]? = some a) (ok : Ext g H g (upd H a o') → OR K g (upd H a o') a ob) :
    Ext g H g (upd H a o') ∧ HR K g (upd H a o') (h.set i ob) := by
  have ha : a ∈ g.m := List.mem_of_getElem? hm
  have E : Ext g H g (upd H a o') := by
    refine ⟨⟨[], by simp, by simp⟩, rfl, fun b u e hb => ?_, fun b u e => ?_⟩
    · rw [upd_ne (show b ≠ a from fun z => hb (by rw [z]; exact ha))]; exact e
    · by_cases hb : b = a
      · subst hb; exact ⟨_, upd_same⟩
      · exact ⟨u, by rw [upd_ne hb]; exact e⟩
  refine ⟨E, by simp [R.len], R.nd, R.dis, fun b hb => ?_, fun j o b e1 e2 => ?_⟩
  · obtain ⟨ob, e, mu⟩ := R.al b hb
    exact ⟨ob, by rw [upd_ne (show b ≠ a from fun z => R.dis a ha (by rw [← z]; exact hb))]; exact e, mu⟩
  · by_cases hj : i = j
    · subst hj
      have hi : i < h.length := by rw [← R.len]; exact (List.getElem?_eq_some_iff.mp hm).1
      rw [List.getElem?_set_self hi] at e1
      cases e1
      rw [hm] at e2
      cases e2
      exact ok E
    · rw [List.getElem?_set_ne hj] at e1
      have hba : b ≠ a := by
        rintro rfl
        have h1 := (List.getElem?_eq_some_iff.mp hm)
        have h2 := (List.getElem?_eq_some_iff.mp e2)
        obtain ⟨l1, p1⟩ := h1
        obtain ⟨l2, p2⟩ := h2
        exact hj ((List.getElem_inj R.nd).mp (p1.trans p2.symm))
      have q := R.obj j o b e1 e2
      cases o with
      | lst l => obtain ⟨xs, e, r⟩ := q; exact ⟨xs, by rw [upd_ne hba]; exact e, r.ext R E⟩
      | dic l => obtain ⟨xs, e, r⟩ := q; exact ⟨xs, by rw [upd_ne hba]; exact e, r.1, r.2.ext R E⟩
      | ins c f => obtain ⟨dx, gs, e, r⟩ := q; exact ⟨dx, gs, by rw [upd_ne hba]; exact e, r.1, r.2.ext R E⟩
end

/-! ### arithmetic -/
def big64 (i : Int) : Bool := decide (-(2 ^ 64) < i) && decide (i < 2 ^ 64)
def vAdd (v u : Val) (h : Hv) : Res Val := match v, u with
  | .int i, .int j => .ok (.int (i + j)) h
  | .str a, .str b => if a.length + b.length ≤ lineN then .ok (.str (a ++ b)) h else .fail
  | .tup a, .tup b => if a.length + b.length ≤ lineN then .ok (.tup (a ++ b)) h else .fail
  | v, u => match lstOf h v, lstOf h u with
    | some a, some b => if a.length + b.length ≤ lineN then .ok (.lst (a ++ b)) h else .fail
    | _, _ => .fail
def vSub (v u : Val) (h : Hv) : Res Val := match v, u with
  | .int i, .int j => .ok (.int (i - j)) h
  | _, _ => .fail
def vMul (v u : Val) (h : Hv) : Res Val := match v, u with
  | .int i, .int j => if big64 i || big64 j then .ok (.int (i * j)) h else .fail
  | .lst l, .int k => if -(2 ^ 63) ≤ k ∧ k < 2 ^ 63 ∧ l.length * k.toNat ≤ lineN then .ok (.lst (List.replicate k.toNat l).flatten) h else .fail
  | _, _ => .fail
def vDiv (v u : Val) (h : Hv) : Res Val := match v, u with
  | .int i, .int j => if 0 < j ∧ j < 1073741824 then .ok (.int (i / j)) h else .fail
  | _, _ => .fail
def vMod (v u : Val) (h : Hv) : Res Val := match v, u with
  | .int i, .int j => if 0 < j then .ok (.int (i % j)) h else .fail
  | _, _ => .fail
def vPow (v u : Val) (h : Hv) : Res Val := match v, u with
  | .int i, .int j => if 0 ≤ j ∧ j ≤ 1000000 ∧ i.natAbs < 2 ^ 64 then .ok (.int (i ^ j.toNat)) h else .fail
  | _, _ => .fail
def vCmpI (p : Int → Int → Bool) (v u : Val) (h : Hv) : Res Val := match v, u with
  | .int i, .int j => .ok (.bl (p i j)) h
  | _, _ => .fail
section
variable {X : Cx}
theorem sOf_append (a b : List Nat) : sOf a ++ sOf b = sOf (a ++ b) := by
  show (⟨(sOf a).cps ++ (sOf b).cps⟩ : Str) = _
  simp [sOf]
theorem og_add : OpG X (binaryOp .Add) vAdd := by
  refine ⟨_, op_add.or (op_add_str.or (op_catA.or op_cat)), fun W g H h σ v u x y Q R rv ru A => ?_⟩
  have lists : ∀ (A : After X.K W (vr X.K) σ g H Q (match lstOf h v, lstOf h u with
    | some a, some b => if a.length + b.length ≤ lineN then .ok (.lst (a ++ b)) h else .fail
    | _, _ => .fail)), rCat x y H Q := by
    intro A
    split at A
    · rename_i a b e1 e2
      split at A
      · rename_i hl
        obtain ⟨p, xs, rfl, s1, r1⟩ := lstOf_ok R rv e1
        obtain ⟨q, ys, rfl, s2, r2⟩ := lstOf_ok R ru e2
        refine ⟨p, q, xs, ys, rfl, rfl, s1, s2, by rw [← r1.length, ← r2.length]; exact line_ok hl, fun b np => ?_⟩
        obtain ⟨E, R1⟩ := R.grow (o := .lst (xs ++ ys)) np
        refine A g _ (.ref b) E R1 ?_
        simp only [VR]
        exact ⟨b, _, rfl, R.fresh np, upd_same, (r1.append r2).ext R E⟩
      · exact A.elim
    · exact A.elim
  unfold vAdd at A
  split at A
  · simp only [VR] at rv ru
    subst rv ru
    exact .inl ⟨_, _, rfl, rfl, A g H _ Ext.refl R (by simp only [VR])⟩
  · rename_i a b
    simp only [VR] at rv ru
    subst rv ru
    split at A
    · rename_i hl
      exact .inr (.inl ⟨_, _, rfl, rfl, by rw [sOf_len, sOf_len]; exact line_ok hl, A g H _ Ext.refl R (by simp only [VR]; rw [sOf_append])⟩)
    · exact A.elim
  · rename_i a b
    split at A
    · rename_i hl
      simp only [VR] at rv ru
      obtain ⟨p, xs, rfl, s1, r1⟩ := rv
      obtain ⟨q, ys, rfl, s2, r2⟩ := ru
      refine .inr (.inr (.inl ⟨p, q, xs, ys, rfl, rfl, s1, s2, by rw [← r1.length, ← r2.length]; exact line_ok hl, fun e => ?_, fun e e' => ?_, fun _ _ b np => ?_⟩))
      · subst e
        refine A g H _ Ext.refl R ?_
        simp only [VR]
        exact ⟨q, ys, rfl, s2, by simpa using r1.append r2⟩
      · subst e'
        refine A g H _ Ext.refl R ?_
        simp only [VR]
        exact ⟨p, xs, rfl, s1, by simpa using r1.append r2⟩
      · obtain ⟨E, R1⟩ := R.grow (o := .tup (xs ++ ys)) np
        refine A g _ (.ref b) E R1 ?_
        simp only [VR]
        exact ⟨b, _, rfl, SqT.of upd_same, (r1.append r2).ext R E⟩
    · exact A.elim
  · exact .inr (.inr (.inr (lists A)))
theorem og_int {op : Value → Value → Sem Value} {C : Int → Int → Prop} {f : Int → Int → V} {d : Val → Val → Hv → Res Val} (ho : OpR X op (rI C f))
    (hd : ∀ (W : WX) (g : Gh) (H : Hp) (h : Hv) (σ : L2.St) (v u : Val) (Q : VK), HR X.K g H h → After X.K W (vr X.K) σ g H Q (d v u h) → ∃ i j, v = .int i ∧ u = .int j ∧ C i j ∧ Q (f i j) H) : OpG X op d := by
  refine ⟨_, ho, fun W g H h σ v u x y Q R rv ru A => ?_⟩
  obtain ⟨i, j, rfl, rfl, c, q⟩ := hd W g H h σ v u Q R A
  simp only [VR] at rv ru
  exact ⟨i, j, rv, ru, c, q⟩
theorem og_int0 {op : Value → Value → Sem Value} {f : Int → Int → V} {d : Val → Val → Hv → Res Val} (ho : OpR X op (rI0 f))
    (hd : ∀ (W : WX) (g : Gh) (H : Hp) (h : Hv) (σ : L2.St) (v u : Val) (Q : VK), HR X.K g H h → After X.K W (vr X.K) σ g H Q (d v u h) → ∃ i j, v = .int i ∧ u = .int j ∧ Q (f i j) H) : OpG X op d := by
  refine ⟨_, ho, fun W g H h σ v u x y Q R rv ru A => ?_⟩
  obtain ⟨i, j, rfl, rfl, q⟩ := hd W g H h σ v u Q R A
  simp only [VR] at rv ru
  exact ⟨i, j, rv, ru, q⟩
theorem og_sub : OpG X (binaryOp .Sub) vSub := og_int0 op_sub fun W g H h σ v u Q R A => by
  unfold vSub at A
  split at A
  · exact ⟨_, _, rfl, rfl, A g H _ Ext.refl R (by simp only [VR])⟩
  · exact A.elim
theorem og_div : OpG X (binaryOp .FloorDiv) vDiv := og_int op_fdiv fun W g H h σ v u Q R A => by
  unfold vDiv at A
  split at A
  · split at A
    · rename_i c
      exact ⟨_, _, rfl, rfl, c, A g H _ Ext.refl R (by simp only [VR])⟩
    · exact A.elim
  · exact A.elim
theorem og_mod : OpG X (binaryOp .Mod) vMod := og_int op_mod fun W g H h σ v u Q R A => by
  unfold vMod at A
  split at A
  · split at A
    · rename_i c
      exact ⟨_, _, rfl, rfl, c, A g H _ Ext.refl R (by simp only [VR])⟩
    · exact A.elim
  · exact A.elim
theorem og_pow : OpG X (binaryOp .Pow) vPow := og_int op_pow fun W g H h σ v u Q R A => by
  unfold vPow at A
  split at A
  · split at A
    · rename_i c
      exact ⟨_, _, rfl, rfl, c, A g H _ Ext.refl R (by simp only [VR])⟩
    · exact A.elim
  · exact A.elim
theorem big64_ok {i : Int} (h : big64 i = true) : -(2 ^ 64) < i ∧ i < 2 ^ 64 := by
  simpa [big64] using h
theorem og_mul : OpG X (binaryOp .Mult) vMul := by
  refine ⟨_, op_mul.or op_rep, fun W g H h σ v u x y Q R rv ru A => ?_⟩
  unfold vMul at A
  split at A
  · split at A
    · rename_i c
      simp only [VR] at rv ru
      subst rv ru
      refine .inl ⟨_, _, rfl, rfl, ?_, A g H _ Ext.refl R (by simp only [VR])⟩
      rcases Bool.or_eq_true_iff.mp c with c | c
      · exact .inl (big64_ok c)
      · exact .inr (big64_ok c)
    · exact A.elim
  · rename_i l k
    split at A
    · rename_i c
      simp only [VR] at rv ru
      subst ru
      obtain ⟨p, xs, rfl, n, s1, r1⟩ := rv
      refine .inr ⟨p, k, xs, rfl, rfl, s1, c.1, c.2.1, by rw [← r1.length]; exact line_ok c.2.2, fun b np => ?_⟩
      obtain ⟨E, R1⟩ := R.grow (o := .lst (List.replicate k.toNat xs).flatten) np
      refine A g _ (.ref b) E R1 ?_
      simp only [VR]
      refine ⟨b, _, rfl, R.fresh np, upd_same, ?_⟩
      have rep : ∀ n : Nat, VRs X.K g H (List.replicate n l).flatten (List.replicate n xs).flatten := by
        intro n
        induction n with
        | zero => simpa using VRs.nil
        | succ n ih => rw [List.replicate_succ, List.replicate_succ, List.flatten_cons, List.flatten_cons]; exact r1.append ih
      exact (rep _).ext R E
    · exact A.elim
  · exact A.elim
theorem og_cmpI {op : CmpOp} {p : Int → Int → Bool} (ho : OpR X (compareOp op) (rI0 fun i j => .bl (p i j))) : OpG X (compareOp op) (vCmpI p) := og_int0 ho fun W g H h σ v u Q R A => by
  unfold vCmpI at A
  split at A
  · exact ⟨_, _, rfl, rfl, A g H _ Ext.refl R (by simp only [VR])⟩
  · exact A.elim
abbrev vLt := vCmpI fun i j => decide (i < j)
abbrev vLe := vCmpI fun i j => decide (i ≤ j)
abbrev vGt := vCmpI fun i j => decide (j < i)
abbrev vGe := vCmpI fun i j => decide (j ≤ i)
theorem og_lt : OpG X (compareOp .Lt) vLt := og_cmpI op_lt
theorem og_le : OpG X (compareOp .LtE) vLe := og_cmpI op_le
theorem og_gt : OpG X (compareOp .Gt) vGt := og_cmpI op_gt
theorem og_ge : OpG X (compareOp .GtE) vGe := og_cmpI op_ge
def isNon : Val → Bool
  | .non => true
  | _ => false
def vIsN (v u : Val) (h : Hv) : Res Val := match u with
  | .non => .ok (.bl (isNon v)) h
  | _ => .fail
def vNotN (v u : Val) (h : Hv) : Res Val := match u with
  | .non => .ok (.bl (!isNon v)) h
  | _ => .fail
theorem VR.non_iff {K : PySem.W.Frag} {g : Gh} {H : Hp} {v : Val} {x : V} (r : VR K g H v x) : decide (x = .non) = isNon v := by
  cases v <;> simp only [VR] at r <;> first | (subst r; rfl) | (obtain ⟨_, _, _, rfl, _⟩ := r; rfl) | (obtain ⟨_, _, rfl, _⟩ := r; rfl) | (obtain ⟨_, rfl, _⟩ := r; rfl)
theorem og_isN : OpG X (compareOp .Is) vIsN := by
  refine ⟨_, op_isN, fun W g H h σ v u x y Q R rv ru A => ?_⟩
  unfold vIsN at A
  split at A
  · simp only [VR] at ru
    refine ⟨ru, ?_⟩
    rw [rv.non_iff]
    exact A g H _ Ext.refl R (by simp only [VR])
  · exact A.elim
theorem og_notN : OpG X (compareOp .IsNot) vNotN := by
  refine ⟨_, op_notN, fun W g H h σ v u x y Q R rv ru A => ?_⟩
  unfold vNotN at A
  split at A
  · simp only [VR] at ru
    refine ⟨ru, ?_⟩
    rw [rv.non_iff]
    exact A g H _ Ext.refl R (by simp only [VR])
  · exact A.elim
/-- -e -/
def dNeg (d : Den) : Den := fun l h => (d l h).bind fun v h1 => match v with
  | .int i => .ok (.int (-i)) h1
  | _ => .fail
theorem ge_neg {W : WX} {a : Expr} {d : Den} {pos : Pos} (ha : GE X W a d) : GE X W (.UnaryOp .USub a pos) (dNeg d) := by
  refine PE.imp (pe_un un_neg ha) fun σ H Q ⟨g, l, h, S, R, A⟩ => ?_
  refine tG_of S R A fun v h1 g1 H1 x E S1 R1 r1 A1 => ?_
  cases v with
  | int i =>
    simp only [VR] at r1
    exact ⟨i, r1, A1 g1 H1 _ Ext.refl R1 (by simp only [VR])⟩
  | _ => exact A1.elim

/-! ### dicts as lists of pairs -/
def kEq : Val → Val → Bool
  | .int i, .int j => decide (i = j)
  | .str a, .str b => decide (a = b)
  | _, _ => false
def dGet (l : List (Val × Val)) (k : Val) : Option Val := (l.find? fun p => kEq p.1 k).map (·.2)
def dPut (l : List (Val × Val)) (k v : Val) : List (Val × Val) := if (l.any fun p => kEq p.1 k) then l.map (fun p => if kEq p.1 k then (p.1, v) else p) else l ++ [(k, v)]
def dDrop (l : List (Val × Val)) (k : Val) : List (Val × Val) := l.filter fun p => !kEq p.1 k
theorem kEq_key {a b : Val} {ka kb : Key} (ha : keyOf a = some ka) (hb : keyOf b = some kb) : kEq a b = decide (ka = kb) := by
  cases a <;> simp only [keyOf, Option.some.injEq, reduceCtorEq] at ha <;> cases b <;> simp only [keyOf, Option.some.injEq, reduceCtorEq] at hb <;> subst ha hb
  · rename_i i j
    simp only [kEq]
    by_cases e : i = j
    · subst e; simp
    · rw [decide_eq_false e, decide_eq_false (fun z => e (Sum.inl.inj z))]
  · simp [kEq]
  · simp [kEq]
  · rename_i i j
    simp only [kEq]
    by_cases e : i = j
    · subst e; simp
    · rw [decide_eq_false e, decide_eq_false (fun z => e (sOf_inj (Sum.inr.inj z)))]
section
variable {K : PySem.W.Frag} {g : Gh} {H : Hp}
theorem DR.nil : DR K g H [] [] := ⟨rfl, VRs.nil⟩
theorem DR.inv {l : List (Val × Val)} {p : Val × Val} {ks : List (Key × V)} (r : DR K g H (p :: l) ks) : ∃ q ks', ks = q :: ks' ∧ keyOf p.1 = some q.1 ∧ VR K g H p.2 q.2 ∧ DR K g H l ks' := by
  obtain ⟨e, r⟩ := r
  cases ks with
  | nil => simp at e
  | cons q ks' =>
    simp only [List.map_cons, List.cons.injEq] at e
    simp only [List.map_cons, VRs] at r
    obtain ⟨x, r', e1, q1, q2⟩ := r
    cases e1
    exact ⟨q, ks', rfl, e.1, q1, e.2, q2⟩
theorem DR.cons {l : List (Val × Val)} {p : Val × Val} {ks : List (Key × V)} {q : Key × V} (e : keyOf p.1 = some q.1) (r : VR K g H p.2 q.2) (t : DR K g H l ks) : DR K g H (p :: l) (q :: ks) :=
  ⟨by simp [e, t.1], by simp only [List.map_cons]; exact .cons r t.2⟩
theorem DR.nilInv {ks : List (Key × V)} (r : DR K g H [] ks) : ks = [] := by
  obtain ⟨e, _⟩ := r
  cases ks with
  | nil => rfl
  | cons q ks' => simp at e
theorem DR.length : ∀ {l : List (Val × Val)} {ks : List (Key × V)}, DR K g H l ks → l.length = ks.length
  | [], ks, r => by rw [r.nilInv]; rfl
  | p :: l, ks, r => by obtain ⟨q, ks', rfl, _, _, t⟩ := r.inv; simp [DR.length t]
theorem DR.get {k : Val} {kk : Key} (hk : keyOf k = some kk) : ∀ {l : List (Val × Val)} {ks : List (Key × V)}, DR K g H l ks → (∀ v, dGet l k = some v → ∃ x, valV ks kk = some x ∧ VR K g H v x) ∧ (dGet l k = none → valV ks kk = none)
  | [], ks, r => by rw [r.nilInv]; exact ⟨fun v e => by simp [dGet] at e, fun _ => rfl⟩
  | p :: l, ks, r => by
    obtain ⟨q, ks', rfl, e, rv, t⟩ := r.inv
    have ih := DR.get hk t
    have ek := kEq_key e hk
    by_cases c : q.1 = kk
    · rw [decide_eq_true c] at ek
      have e1 : dGet (p :: l) k = some p.2 := by simp [dGet, ek]
      rw [e1, valV_pos c]
      exact ⟨fun v z => by cases z; exact ⟨_, rfl, rv⟩, fun z => by cases z⟩
    · rw [decide_eq_false c] at ek
      have e1 : dGet (p :: l) k = dGet l k := by simp [dGet, ek]
      rw [e1, valV_neg c]
      exact ih
theorem DR.any {k : Val} {kk : Key} (hk : keyOf k = some kk) : ∀ {l : List (Val × Val)} {ks : List (Key × V)}, DR K g H l ks → (l.any fun p => kEq p.1 k) = (ks.any fun kv => decide (kv.1 = kk))
  | [], ks, r => by rw [r.nilInv]; rfl
  | p :: l, ks, r => by
    obtain ⟨q, ks', rfl, e, rv, t⟩ := r.inv
    simp only [List.any_cons, kEq_key e hk, DR.any hk t]
theorem DR.repl {k v : Val} {kk : Key} {x : V} (hk : keyOf k = some kk) (rx : VR K g H v x) : ∀ {l : List (Val × Val)} {ks : List (Key × V)}, DR K g H l ks → DR K g H (l.map fun p => if kEq p.1 k then (p.1, v) else p) (ks.map fun kv => if kv.1 = kk then (kv.1, x) else kv)
  | [], ks, r => by rw [r.nilInv]; exact DR.nil
  | p :: l, ks, r => by
    obtain ⟨q, ks', rfl, e, rv, t⟩ := r.inv
    simp only [List.map_cons, kEq_key e hk]
    by_cases c : q.1 = kk
    · simp only [c, decide_true, if_true]
      exact .cons (by show keyOf p.1 = some kk; rw [e, c]) rx (DR.repl hk rx t)
    · simp only [c, decide_false, if_false, Bool.false_eq_true]
      exact .cons e rv (DR.repl hk rx t)
theorem DR.append {l l' : List (Val × Val)} {ks ks' : List (Key × V)} (a : DR K g H l ks) (b : DR K g H l' ks') : DR K g H (l ++ l') (ks ++ ks') :=
  ⟨by simp [a.1, b.1], by simpa using a.2.append b.2⟩
theorem DR.put {k v : Val} {kk : Key} {x : V} {l : List (Val × Val)} {ks : List (Key × V)} (r : DR K g H l ks) (hk : keyOf k = some kk) (rx : VR K g H v x) : DR K g H (dPut l k v) (putK ks kk x) := by
  unfold dPut putK
  rw [DR.any hk r]
  by_cases c : (ks.any fun kv => decide (kv.1 = kk)) = true
  · rw [if_pos c, if_pos c]
    exact DR.repl hk rx r
  · rw [if_neg c, if_neg c]
    exact r.append (.cons hk rx .nil)
theorem DR.drop {k : Val} {kk : Key} (hk : keyOf k = some kk) : ∀ {l : List (Val × Val)} {ks : List (Key × V)}, DR K g H l ks → DR K g H (dDrop l k) (dropK ks kk)
  | [], ks, r => by rw [r.nilInv]; exact DR.nil
  | p :: l, ks, r => by
    obtain ⟨q, ks', rfl, e, rv, t⟩ := r.inv
    unfold dDrop dropK
    have ih := DR.drop hk t
    unfold dDrop dropK at ih
    rw [List.filter_cons, List.filter_cons, kEq_key e hk]
    by_cases c : q.1 = kk
    · rw [if_neg (by simp [c]), if_neg (by simp [c])]
      exact ih
    · rw [if_pos (by simp [c]), if_pos (by simp [c])]
      exact .cons e rv ih
theorem key_V {v : Val} {x : V} {k : Key} (r : VR K g H v x) (e : keyOf v = some k) : x = kV k := by
  cases v <;> simp only [keyOf, Option.some.injEq, reduceCtorEq] at e <;> subst e <;> simp only [VR] at r <;> exact r
end

/-! ### a[b] -/
/-- the item at an index of any sign -/
def nth {α : Type} (l : List α) (i : Int) : Option α := if 0 ≤ i then l[i.toNat]? else if -(l.length : Int) ≤ i then l[(i + l.length).toNat]? else none
theorem nth_atI {α : Type} {l : List α} {i : Int} {v : α} (h : nth l i = some v) : atI l i = some v := by
  unfold nth at h
  unfold atI ixN
  split at h
  · rename_i h0
    have hl := (List.getElem?_eq_some_iff.mp h).1
    rw [if_pos h0, if_pos (by omega)]
    exact h
  · rename_i h0
    split at h
    · rename_i h1
      rw [if_neg h0, if_pos h1]
      exact h
    · cases h
theorem VRs.nth {K : PySem.W.Frag} {g : Gh} {H : Hp} {l : List Val} {xs : List V} {i : Int} {v : Val} (r : VRs K g H l xs) (h : GH.nth l i = some v) : ∃ x, atI xs i = some x ∧ VR K g H v x := by
  have hl := r.length
  unfold GH.nth at h
  split at h
  · rename_i h0
    obtain ⟨x, e, q⟩ := r.get h
    exact ⟨x, nth_atI (by unfold GH.nth; rw [if_pos h0]; exact e), q⟩
  · rename_i h0
    split at h
    · rename_i h1
      obtain ⟨x, e, q⟩ := r.get h
      exact ⟨x, nth_atI (by unfold GH.nth; rw [if_neg h0, if_pos (by omega), ← hl]; exact e), q⟩
    · cases h
def vIx (v u : Val) (h : Hv) : Res Val := match v with
  | .str s => match u with
    | .int i => if s.length ≤ lineN then (match nth s i with
      | some c => .ok (.str [c]) h
      | none => .fail) else .fail
    | _ => .fail
  | v => match seqOf h v with
    | some l => (match u with
      | .int i => (match nth l i with
        | some w => .ok w h
        | none => .fail)
      | _ => .fail)
    | none => match dicOf h v, keyOf u with
      | some l, some _ => (match dGet l u with
        | some w => .ok w h
        | none => .fail)
      | _, _ => .fail
def rIxD : R2 := fun x y H Q => ∃ a v, x = .ref a ∧ DGet H a y (some v) ∧ Q v H
theorem ix_dict (hu : X.A.units + 1 < cLine) : IxR X rIxD := by
  intro value slice pins s σ H x y v u Q I rx ry h hs
  obtain ⟨a, z, rfl, d, q⟩ := h
  obtain rfl : v = Value.ref a := rx
  exact tail_any (dict_typeIs I d) PySem.F.slot_dict_getitem.lookup (d_getItem hu I d ry fun w' s' I' r' => ⟨z, H, I', r', q⟩) hs
theorem vIx_ok {W : WX} {g : Gh} {H : Hp} {h : Hv} {σ : L2.St} {v u : Val} {x y : V} {Q : VK} (R : HR X.K g H h) (rv : VR X.K g H v x) (ru : VR X.K g H u y) (A : After X.K W (vr X.K) σ g H Q (vIx v u h)) : rIx X.K x y H Q ∨ rIxD x y H Q := by
  unfold vIx at A
  split at A
  · rename_i s
    split at A
    · rename_i i
      split at A
      · rename_i hl
        split at A
        · rename_i c e
          simp only [VR] at rv ru
          subst rv ru
          exact .inl (.inr (.inr ⟨_, i, c, rfl, rfl, by rw [sOf_len]; exact line_ok hl, by simpa [sOf] using nth_atI e, A g H _ Ext.refl R (by simp only [VR]; rfl)⟩))
        · exact A.elim
      · exact A.elim
    · exact A.elim
  · rename_i hns
    split at A
    · rename_i l hl
      obtain ⟨a, xs, rfl, s, r⟩ := seqOf_ok R rv hl
      split at A
      · rename_i i
        split at A
        · rename_i w e
          simp only [VR] at ru
          subst ru
          obtain ⟨z, e', rz⟩ := VRs.nth r e
          rcases s with s | s
          · exact .inl (.inl ⟨a, xs, i, z, rfl, rfl, s, e', A g H _ Ext.refl R rz⟩)
          · exact .inl (.inr (.inl ⟨a, xs, i, z, rfl, rfl, s, e', A g H _ Ext.refl R rz⟩))
        · exact A.elim
      · exact A.elim
    · split at A
      · rename_i l k hl hk
        split at A
        · rename_i w e
          obtain ⟨i, a, ks, rfl, rfl, hm, hi, ha, d⟩ := dicOf_ok R rv hl
          obtain ⟨z, e', rz⟩ := (DR.get hk d).1 w e
          refine .inr ⟨a, z, rfl, ?_, A g H _ Ext.refl R rz⟩
          rw [key_V ru hk, ← e']
          exact DGet.k ha
        · exact A.elim
      · exact A.elim
theorem ge_ix {W : WX} {a b : Expr} {da db : Den} {pos : Pos} (hu : X.A.units + 1 < cLine) (ha : GE X W a da) (hb : GE X W b db) (hs : PlainIx b := by exact fun _ _ => rfl) : GE X W (.Subscript a b pos) (dBin vIx da db) := by
  refine PE.imp (pe_ix (ix_seq.or (ix_dict hu)) ha hb hs) fun σ H Q ⟨g, l, h, S, R, A⟩ => ?_
  refine tG_of S R A fun v h1 g1 H1 x E S1 R1 r1 A1 => ?_
  refine tG_of S1 R1 A1 fun u h2 g2 H2 y E2 S2 R2 r2 A2 => ?_
  exact vIx_ok R2 (r1.ext R1 E2) r2 A2

/-! ### len, truth -/
def vLen (v : Val) (h : Hv) : Res Val := match v with
  | .str s => if s.length ≤ lineN then .ok (.int s.length) h else .fail
  | v => match seqOf h v with
    | some l => .ok (.int l.length) h
    | none => match dicOf h v with
      | some l => .ok (.int l.length) h
      | none => .fail
theorem call_lenG : CallR X (.builtin "len") (fun xs H Q => (∃ x n, xs = [x] ∧ LenV X.K x H n ∧ Q (.int n) H) ∨ ∃ a kvs, xs = [.ref a] ∧ Rd H a (.dK kvs) ∧ Q (.int kvs.length) H) := by
  intro pins s σ H xs us Q I r h
  rcases h with h | ⟨a, kvs, rfl, e, q⟩
  · exact call_len pins s σ H xs us Q I r h
  · obtain ⟨u, rfl, ru⟩ := vals1 r
    obtain rfl : u = Value.ref a := ru
    exact d_len I e fun t s' I' => ⟨.int kvs.length, H, I', ⟨_, rfl⟩, q⟩
def dLen (d : Den) : Den := fun l h => (d l h).bind vLen
theorem ge_len {W : WX} {e : Expr} {d : Den} {x : Str} {p pos : Pos} (he : GE X W e d) (hm : X.mg x = none) (hg : Gl X x := by rfl) (hv : bootBuiltins x = some (.builtin "len") := by decide +kernel) (hn : x ≠ "__name__" := by decide +kernel) (hdb : (x == ("__debug__" : Str)) = false := by decide +kernel)
    (hst : starEach [e] X.env = (false, eval e X.env) :: starEach [] X.env := by rfl) (hpl : (backTo pos (starEach [] X.env)).any (·.1) = false := by rfl) : GE X W (.Call (.Name x p) [e] [] pos) (dLen d) := by
  refine PE.imp (pe_callB call_lenG hg hm hv (pa_cons he pa_nil hst) hn hdb hst hpl) fun σ H Q ⟨g, l, h, S, R, A⟩ => ?_
  refine tG_of S R A fun v h1 g1 H1 x E S1 R1 r1 A1 => ?_
  show _ ∨ _
  unfold vLen at A1
  split at A1
  · rename_i s
    split at A1
    · rename_i hl
      simp only [VR] at r1
      subst r1
      exact .inl ⟨_, _, rfl, ⟨by rw [sOf_len]; exact line_ok hl, rfl⟩, by rw [sOf_len]; exact A1 g1 H1 _ Ext.refl R1 (by simp only [VR])⟩
    · exact A1.elim
  · split at A1
    · rename_i k hk
      obtain ⟨a, xs, rfl, s, r⟩ := seqOf_ok R1 r1 hk
      refine .inl ⟨_, xs.length, rfl, ?_, by rw [← r.length]; exact A1 g1 H1 _ Ext.refl R1 (by simp only [VR])⟩
      rcases s with s | s
      · exact .inl ⟨xs, s, rfl⟩
      · exact .inr ⟨xs, s, rfl⟩
    · split at A1
      · rename_i k hk
        obtain ⟨i, a, ks, rfl, rfl, hm, hi, ha, d⟩ := dicOf_ok R1 r1 hk
        exact .inr ⟨a, ks, rfl, .inl ha, by rw [← d.length]; exact A1 g1 H1 _ Ext.refl R1 (by simp only [VR])⟩
      · exact A1.elim
def vTru (v : Val) (h : Hv) : Res Bool := match v with
  | .non => .ok false h
  | .bl b => .ok b h
  | .int i => .ok (i != 0) h
  | .str s => if s.length ≤ lineN then .ok (!s.isEmpty) h else .fail
  | v => match seqOf h v with
    | some l => .ok (!l.isEmpty) h
    | none => match dicOf h v with
      | some l => .ok (!l.isEmpty) h
      | none => .fail
theorem isEmpty_len {α β : Type} {l : List α} {l' : List β} (h : l.length = l'.length) : l.isEmpty = l'.isEmpty := by
  cases l <;> cases l' <;> simp_all
theorem vTru_ok {W : WX} {g : Gh} {H : Hp} {h : Hv} {σ : L2.St} {v : Val} {x : V} {Q : Bool → Hp → Prop} (R : HR X.K g H h) (rv : VR X.K g H v x) (A : After X.K W br σ g H Q (vTru v h)) : ∃ k, TruV X.K x H k ∧ Q k H := by
  unfold vTru at A
  split at A
  · simp only [VR] at rv; subst rv; exact ⟨_, rfl, A g H _ Ext.refl R rfl⟩
  · simp only [VR] at rv; subst rv; exact ⟨_, rfl, A g H _ Ext.refl R rfl⟩
  · simp only [VR] at rv; subst rv; exact ⟨_, rfl, A g H _ Ext.refl R rfl⟩
  · rename_i s
    split at A
    · rename_i hl
      simp only [VR] at rv
      subst rv
      refine ⟨_, ⟨by rw [sOf_len]; exact line_ok hl, rfl⟩, ?_⟩
      rw [sOf_len]
      have e : ((s.length : Int) != 0) = !s.isEmpty := by cases s <;> simp <;> omega
      rw [e]
      exact A g H _ Ext.refl R rfl
    · exact A.elim
  · split at A
    · rename_i k hk
      obtain ⟨a, xs, rfl, s, r⟩ := seqOf_ok R rv hk
      refine ⟨!xs.isEmpty, ?_, by rw [← isEmpty_len r.length]; exact A g H _ Ext.refl R rfl⟩
      rcases s with s | s
      · exact .inl ⟨xs, s, rfl⟩
      · exact .inr (.inl ⟨xs, s, rfl⟩)
    · split at A
      · rename_i k hk
        obtain ⟨i, a, ks, rfl, rfl, hm, hi, ha, d⟩ := dicOf_ok R rv hk
        exact ⟨!ks.isEmpty, .inr (.inr ⟨ks, ha, rfl⟩), by rw [← isEmpty_len d.length]; exact A g H _ Ext.refl R rfl⟩
      · exact A.elim
def dTru (d : Den) : DenG Bool := fun l h => (d l h).bind vTru
theorem gt_tru {W : WX} {e : Expr} {d : Den} (he : GE X W e d) (hs : ∀ whole, isTrue e X.env whole = (do let v ← whole; standAt e.pos; holding [v] (truthy v)) := by intro _; rfl) : GT X W e (dTru d) := by
  refine PT.imp (pt_truth he hs) fun σ H Q ⟨g, l, h, S, R, A⟩ => ?_
  exact tG_of S R A fun v h1 g1 H1 x E S1 R1 r1 A1 => vTru_ok R1 r1 A1
end
end GH
set_option Elab.async false
set_option linter.all false
set_option maxRecDepth 100000
set_option maxHeartbeats 1000000
set_option autoImplicit false
/-! Loops and comprehensions. -/
namespace GH
open PySem PySem.Spec PyProof.Rows L2

/-- behind a loop's body -/
def SRes.turn (r : SRes) (k : Stm) : SRes := match r with
  | .nx l h => k l h
  | .ct l h => k l h
  | .bk l h => .nx l h
  | r => r
@[simp] theorem SRes.turn_nx (l : Loc) (h : Hv) (k : Stm) : (SRes.nx l h).turn k = k l h := rfl
@[simp] theorem SRes.turn_ct (l : Loc) (h : Hv) (k : Stm) : (SRes.ct l h).turn k = k l h := rfl
@[simp] theorem SRes.turn_bk (l : Loc) (h : Hv) (k : Stm) : (SRes.bk l h).turn k = .nx l h := rfl
@[simp] theorem SRes.turn_rt (v : Val) (h : Hv) (k : Stm) : (SRes.rt v h).turn k = .rt v h := rfl
@[simp] theorem SRes.turn_exc (e : Ex) (l : Loc) (h : Hv) (k : Stm) : (SRes.exc e l h).turn k = .exc e l h := rfl
@[simp] theorem SRes.turn_fail (k : Stm) : SRes.fail.turn k = .fail := rfl

/-! ### while -/
def whileN : Nat → DenG Bool → Stm → Stm
  | 0, _, _ => fun _ _ => .fail
  | n + 1, c, b => fun l h => (c l h).to l fun t h1 => if t = true then (b l h1).turn (whileN n c b) else .nx l h1
theorem whileN_mono (c : DenG Bool) (b : Stm) : ∀ (n : Nat) (l : Loc) (h : Hv), whileN n c b l h ≠ .fail → whileN (n + 1) c b l h = whileN n c b l h
  | 0, l, h, e => absurd rfl e
  | n + 1, l, h, e => by
    show (c l h).to l (fun t h1 => if t = true then (b l h1).turn (whileN (n + 1) c b) else .nx l h1) = (c l h).to l (fun t h1 => if t = true then (b l h1).turn (whileN n c b) else .nx l h1)
    have e : (c l h).to l (fun t h1 => if t = true then (b l h1).turn (whileN n c b) else .nx l h1) ≠ .fail := e
    cases ec : c l h with
    | ok t h1 =>
      rw [ec] at e
      simp only [Res.to_ok] at e ⊢
      cases t with
      | false => rfl
      | true =>
        simp only [if_true] at e ⊢
        cases eb : b l h1 with
        | nx l2 h2 => rw [eb] at e; exact whileN_mono c b n l2 h2 e
        | ct l2 h2 => rw [eb] at e; exact whileN_mono c b n l2 h2 e
        | bk l2 h2 => rfl
        | rt v h2 => rfl
        | exc x l2 h2 => rfl
        | fail => rfl
    | exc x h1 => rfl
    | fail => rfl
theorem whileN_le (c : DenG Bool) (b : Stm) {n : Nat} {l : Loc} {h : Hv} (e : whileN n c b l h ≠ .fail) : ∀ k, whileN (n + k) c b l h = whileN n c b l h
  | 0 => rfl
  | k + 1 => by
    have ih := whileN_le c b e k
    rw [← Nat.add_assoc, whileN_mono c b (n + k) l h (by rw [ih]; exact e), ih]
open Classical in
noncomputable def sWhile (c : DenG Bool) (b : Stm) : Stm := fun l h => if ex : ∃ n, whileN n c b l h ≠ .fail then whileN (Classical.choose ex) c b l h else .fail
theorem sWhile_of {c : DenG Bool} {b : Stm} {n : Nat} {l : Loc} {h : Hv} (e : whileN n c b l h ≠ .fail) : sWhile c b l h = whileN n c b l h := by
  have ex : ∃ n, whileN n c b l h ≠ .fail := ⟨n, e⟩
  unfold sWhile
  rw [dif_pos ex]
  have e' := Classical.choose_spec ex
  generalize Classical.choose ex = m at e'
  rcases Nat.le_total n m with q | q
  · obtain ⟨k, rfl⟩ := Nat.exists_eq_add_of_le q
    exact whileN_le c b e k
  · obtain ⟨k, rfl⟩ := Nat.exists_eq_add_of_le q
    exact (whileN_le c b e' k).symm
theorem sWhile_ne {c : DenG Bool} {b : Stm} {l : Loc} {h : Hv} (e : sWhile c b l h ≠ .fail) : ∃ n, whileN n c b l h ≠ .fail ∧ sWhile c b l h = whileN n c b l h := by
  unfold sWhile at e
  split at e
  · rename_i ex
    exact ⟨_, e, by unfold sWhile; rw [dif_pos ex]⟩
  · exact absurd rfl e
/-- the loop's own equation -/
theorem sWhile_eq (c : DenG Bool) (b : Stm) (l : Loc) (h : Hv) : sWhile c b l h = (c l h).to l fun t h1 => if t = true then (b l h1).turn (sWhile c b) else .nx l h1 := by
  cases ec : c l h with
  | exc x h1 =>
    have e : whileN 1 c b l h = .exc x l h1 := by show (c l h).to l _ = _; rw [ec]; rfl
    rw [sWhile_of (n := 1) (by rw [e]; exact fun z => nomatch z), e]
    rfl
  | fail =>
    by_cases e : sWhile c b l h = .fail
    · rw [e]; rfl
    · obtain ⟨n, e1, e2⟩ := sWhile_ne e
      cases n with
      | zero => exact absurd rfl e1
      | succ n => exact absurd (by show (c l h).to l _ = _; rw [ec]; rfl) e1
  | ok t h1 =>
    simp only [Res.to_ok]
    cases t with
    | false =>
      have e : whileN 1 c b l h = .nx l h1 := by show (c l h).to l _ = _; rw [ec]; rfl
      rw [sWhile_of (n := 1) (by rw [e]; exact fun z => nomatch z), e]
      rfl
    | true =>
      simp only [if_true]
      have step : ∀ n, whileN (n + 1) c b l h = (b l h1).turn (whileN n c b) := fun n => by show (c l h).to l _ = _; rw [ec]; rfl
      have ends : ∀ r : SRes, r ≠ .fail → (∀ k, (b l h1).turn k = r) → sWhile c b l h = (b l h1).turn (sWhile c b) := fun r nr hr => by
        rw [sWhile_of (n := 1) (by rw [step, hr]; exact nr), step, hr, hr]
      have goes : ∀ l2 h2, (∀ k : Stm, (b l h1).turn k = k l2 h2) → sWhile c b l h = (b l h1).turn (sWhile c b) := fun l2 h2 hk => by
        rw [hk]
        by_cases e : sWhile c b l2 h2 = .fail
        · rw [e]
          by_cases e' : sWhile c b l h = .fail
          · exact e'
          · obtain ⟨n, e1, e2⟩ := sWhile_ne e'
            cases n with
            | zero => exact absurd rfl e1
            | succ n =>
              rw [step, hk] at e1
              exact absurd (sWhile_of e1 ▸ e) e1
        · obtain ⟨n, e1, e2⟩ := sWhile_ne e
          rw [sWhile_of (n := n + 1) (by rw [step, hk]; exact e1), step, hk, e2]
      cases eb : b l h1 with
      | nx l2 h2 => rw [← eb]; exact goes l2 h2 fun k => by rw [eb]; rfl
      | ct l2 h2 => rw [← eb]; exact goes l2 h2 fun k => by rw [eb]; rfl
      | bk l2 h2 => rw [← eb]; exact ends (.nx l2 h2) (fun z => nomatch z) fun k => by rw [eb]; rfl
      | rt v h2 => rw [← eb]; exact ends (.rt v h2) (fun z => nomatch z) fun k => by rw [eb]; rfl
      | exc x l2 h2 => rw [← eb]; exact ends (.exc x l2 h2) (fun z => nomatch z) fun k => by rw [eb]; rfl
      | fail =>
        show sWhile c b l h = .fail
        by_cases e : sWhile c b l h = .fail
        · exact e
        · obtain ⟨n, e1, e2⟩ := sWhile_ne e
          cases n with
          | zero => exact absurd rfl e1
          | succ n => exact absurd (by rw [step, eb]; rfl) e1
section
variable {X : Cx} {W : WX}
theorem gs_while {c : Expr} {body : List Stmt} {dc : DenG Bool} {db : Stm} {pos : Pos} (hp : PassesOwn (model X.prog X.w) X.A X.env X.xe) (hc : GT X W c dc) (hb : GSs X W body db) : GS X W (.While c body [] pos) (sWhile dc db) := by
  refine PS.imp (ps_while hp hc hb) fun D σ H ⟨g, l, h, S, R, A⟩ => ?_
  have nf : sWhile dc db l h ≠ .fail := fun e => by rw [e] at A; exact A
  obtain ⟨n0, e0, e1⟩ := sWhile_ne nf
  rw [e1] at A
  refine ⟨fun m σ H => ∃ g l h, SR X.K g H l σ ∧ HR X.K g H h ∧ AfterS X.K W g H D (whileN m dc db l h), ⟨n0, g, l, h, S, R, A⟩, ?_⟩
  rintro m σ H ⟨g, l, h, S, R, A⟩
  cases m with
  | zero => exact A.elim
  | succ m =>
    have A : AfterS X.K W g H D ((dc l h).to l fun t h1 => if t = true then (db l h1).turn (whileN m dc db) else .nx l h1) := A
    refine tG_to S R A fun t h1 g1 H1 x E S1 R1 r1 A1 => ?_
    obtain rfl : t = x := r1
    cases t with
    | false => exact A1 g1 H1 σ Ext.refl R1 S1
    | true =>
      simp only [if_true] at A1 ⊢
      refine ⟨fun σ' H' => ∃ g l h, SR X.K g H' l σ' ∧ HR X.K g H' h ∧ AfterS X.K W g H' D (whileN m dc db l h), fun σ' H' q => ⟨m, Nat.lt_succ_self m, q⟩, g1, l, h1, S1, R1, ?_⟩
      cases eb : db l h1 with
      | nx l2 h2 => rw [eb] at A1; exact fun g' H' σ' E' R' S' => ⟨g', l2, h2, S', R', AfterS.ext E' A1⟩
      | ct l2 h2 => rw [eb] at A1; exact fun g' H' σ' E' R' S' => ⟨g', l2, h2, S', R', AfterS.ext E' A1⟩
      | bk l2 h2 => rw [eb] at A1; exact A1
      | rt v h2 => rw [eb] at A1; exact A1
      | exc x l2 h2 => rw [eb] at A1; exact A1
      | fail => rw [eb] at A1; exact A1

/-! ### what is walked -/
/-- the items, and the object of ours that must stay as it is -/
abbrev Src := List Val × Option Nat
def srcOk (s : Src) (h : Hv) : Prop := match s.2 with
  | none => True
  | some j => h[j]? = some (.lst s.1)
/-- the iterator J serves these items -/
def Serves (K : PySem.W.Frag) (J : It) (g0 : Gh) (H0 : Hp) (s : Src) : Prop := ∀ g H h, ExtS g0 H0 g H → HR K g H h → srcOk s h → ∀ i,
  (∀ v, s.1[i]? = some v → J.go i H ∧ ∀ x H', J.yld i H x H' → Ext g H g H' ∧ HR K g H' h ∧ VR K g H' v x) ∧ (i = s.1.length → J.stop i H)
/-- what follows an iterator -/
def AfterI (K : PySem.W.Frag) (W : WX) (σ : L2.St) (g : Gh) (H : Hp) (R : It → Hp → Prop) : Res Src → Prop
  | .ok s h' => srcOk s h' ∧ ∀ g' H' J, Ext g H g' H' → HR K g' H' h' → s.1.length ≤ sizeLine → Serves K J g' H' s → R J H'
  | .exc e h' => ∀ g' H' cls d, Ext g H g' H' → HR K g' H' h' → ER K g' H' e cls d → W cls d σ H'
  | .fail => False
def tI (K : PySem.W.Frag) (W : WX) (d : DenG Src) : TI := fun σ H R => ∃ g l h, SR K g H l σ ∧ HR K g H h ∧ AfterI K W σ g H R (d l h)
def GI (X : Cx) (W : WX) (tg iter : Expr) (d : DenG Src) : Prop := PI X tg iter (tI X.K W d)
theorem PI.imp {tg e : Expr} {t t' : TI} (p : PI X tg e t) (h : ∀ pins s σ H R, Inv X pins σ H s → t' σ H R → t σ H R) : PI X tg e t' := ⟨fun pins s σ H R I q => p.run pins s σ H R I (h pins s σ H R I q)⟩
theorem PI.or {tg e : Expr} {t t' : TI} (p : PI X tg e t) (p' : PI X tg e t') : PI X tg e fun σ H R => t σ H R ∨ t' σ H R := ⟨fun pins s σ H R I q => by
  rcases q with q | q
  · exact p.run pins s σ H R I q
  · exact p'.run pins s σ H R I q⟩

/-! ### for -/
open Classical in
noncomputable def forL (t : Tg) (b : Stm) (s : Src) : List Val → Stm
  | [] => fun l h => if srcOk s h then .nx l h else .fail
  | x :: r => fun l h => if srcOk s h then (match t x l h with
    | .ok l1 h1 => (b l1 h1).turn (forL t b s r)
    | .exc e l1 h1 => .exc e l1 h1
    | .fail => .fail) else .fail
noncomputable def sFor (di : DenG Src) (t : Tg) (b : Stm) : Stm := fun l h => (di l h).to l fun s h1 => forL t b s s.1 l h1
theorem gs_for {tg iter : Expr} {body : List Stmt} {di : DenG Src} {t : Tg} {db : Stm} {pos : Pos} (hp : PassesOwn (model X.prog X.w) X.A X.env X.xe) (hc : X.calm = true) (hi : GI X W tg iter di) (hg : GG X W tg t) (hb : GSs X W body db)
    (hs : ∀ x, foldedSetIterable iter X.env x = pure x := by intro _; rfl) : GS X W (.For tg iter body [] pos) (sFor di t db) := by
  refine PS.imp (ps_for hp hc hi hg hb hs) fun D σ H ⟨g, l, h, S, R, A⟩ => ?_
  refine ⟨g, l, h, S, R, ?_⟩
  unfold sFor at A
  unfold AfterI
  cases e : di l h with
  | exc x h1 => rw [e] at A; exact fun g' H' c d E' R' r => A g' H' σ c d E' R' (S.ext R E') r
  | fail => rw [e] at A; exact A
  | ok s h1 =>
    rw [e] at A
    simp only [Res.to_ok] at A
    have ok1 : srcOk s h1 := by
      cases hs1 : s.1 with
      | nil =>
        rw [hs1] at A
        simp only [forL] at A
        split at A
        · assumption
        · exact A.elim
      | cons x r =>
        rw [hs1] at A
        simp only [forL] at A
        split at A
        · assumption
        · exact A.elim
    refine ⟨ok1, fun g1 H1 J E1 R1 hz sv => ?_⟩
    refine ⟨fun i m σ H => ∃ g l h, Ext g1 H1 g H ∧ SR X.K g H l σ ∧ HR X.K g H h ∧ m = s.1.length - i ∧ i ≤ s.1.length ∧ AfterS X.K W g H D (forL t db s (s.1.drop i) l h), ⟨s.1.length, g1, l, h1, Ext.refl, S.ext R E1, R1, by simp, Nat.zero_le _, by simpa using AfterS.ext E1 A⟩, ?_⟩
    rintro i m σ H ⟨g, l, h, E, S, R, rfl, hil, A⟩
    cases hd : s.1.drop i with
    | nil =>
      have hle : s.1.length ≤ i := List.drop_eq_nil_iff.mp hd
      rw [hd] at A
      simp only [forL] at A
      split at A
      · rename_i ok
        exact .inl ⟨(sv g H h E.s R ok i).2 (Nat.le_antisymm hil hle), A g H σ Ext.refl R S⟩
      · exact A.elim
    | cons v r =>
      have hlt : i < s.1.length := by
        by_cases q : i < s.1.length
        · exact q
        · rw [List.drop_eq_nil_iff.mpr (by omega)] at hd; cases hd
      have hv : s.1[i]? = some v := by
        have q := congrArg List.head? hd
        rw [List.head?_drop] at q
        simpa using q
      have hr : s.1.drop (i + 1) = r := by
        have q := congrArg List.tail hd
        rw [List.tail_drop] at q
        simpa using q
      rw [hd] at A
      simp only [forL] at A
      split at A
      · rename_i ok
        obtain ⟨go, yl⟩ := (sv g H h E.s R ok i).1 v hv
        refine .inr ⟨go, fun σ' H' => ∃ g l h, Ext g1 H1 g H' ∧ SR X.K g H' l σ' ∧ HR X.K g H' h ∧ i + 1 ≤ s.1.length ∧ AfterS X.K W g H' D (forL t db s (s.1.drop (i + 1)) l h), fun σ' H' ⟨g, l, h, q1, q2, q3, q4, q5⟩ => ⟨s.1.length - (i + 1), by omega, g, l, h, q1, q2, q3, rfl, q4, q5⟩, fun x H' y => ?_⟩
        obtain ⟨E2, R2, rx⟩ := yl x H' y
        refine ⟨g, l, h, v, S.ext R E2, R2, rx, ?_⟩
        have A2 := AfterS.ext E2 A
        cases et : t v l h with
        | exc x l1 h1 => rw [et] at A2; exact A2
        | fail => rw [et] at A2; exact A2
        | ok l2 h2 =>
          rw [et] at A2
          simp only at A2
          intro g3 H3 σ3 E3 R3 S3
          refine ⟨g3, l2, h2, S3, R3, ?_⟩
          have A3 := AfterS.ext E3 A2
          have E03 := (E.trans E2).trans E3
          cases eb : db l2 h2 with
          | nx l4 h4 => rw [eb] at A3; exact fun g' H' σ' E' R' S' => ⟨g', l4, h4, E03.trans E', S', R', hlt, by rw [hr]; exact AfterS.ext E' A3⟩
          | ct l4 h4 => rw [eb] at A3; exact fun g' H' σ' E' R' S' => ⟨g', l4, h4, E03.trans E', S', R', hlt, by rw [hr]; exact AfterS.ext E' A3⟩
          | bk l4 h4 => rw [eb] at A3; exact A3
          | rt v4 h4 => rw [eb] at A3; exact A3
          | exc x4 l4 h4 => rw [eb] at A3; exact A3
          | fail => rw [eb] at A3; exact A3
      · exact A.elim
end
end GH
set_option Elab.async false
set_option linter.all false
set_option maxRecDepth 100000
set_option maxHeartbeats 1000000
set_option autoImplicit false
/-! What may be walked; list comprehensions. -/
namespace GH
open PySem PySem.Spec PyProof.Rows L2

section
variable {K : PySem.W.Frag} {g0 g : Gh} {H0 H : Hp}
theorem sqL_ext {a : Addr} {xs : List V} {h : Hv} (R : HR K g0 H0 h) (E : ExtS g0 H0 g H) (na : ¬ g0.own a) (s : SqL K H0 a xs) : SqL K H a xs := by
  rcases s with s | s
  · exact .inl (E.rd na s)
  · exact .inr s
theorem sqT_ext {a : Addr} {xs : List V} {h : Hv} (R : HR K g0 H0 h) (E : ExtS g0 H0 g H) (s : SqT K H0 a xs) : SqT K H a xs := by
  rcases s with s | s
  · exact .inl (E.rd (R.tup_own s) s)
  · exact .inr s
/-- a walk whose items stay -/
theorem serves_of {J : It} {items : List Val} {src : Option Nat} {n : Nat} (hn : n = items.length)
    (hw : ∀ g H h, ExtS g0 H0 g H → HR K g H h → srcOk (items, src) h → ∃ (G : Hp → Prop) (Y : Nat → Hp → V → Hp → Prop), Walk J n G Y ∧ G H ∧ ∀ i x H' v, items[i]? = some v → Y i H x H' → Ext g H g H' ∧ HR K g H' h ∧ VR K g H' v x) : Serves K J g0 H0 (items, src) := by
  intro g H h E R ok i
  obtain ⟨G, Y, w, gh, hy⟩ := hw g H h E R ok
  refine ⟨fun v hv => ?_, fun hi => ?_⟩
  · have hi : i < n := by rw [hn]; exact (List.getElem?_eq_some_iff.mp hv).1
    exact ⟨w.goes i H hi gh, fun x H' y => hy i x H' v hv (w.yields i H x H' hi gh y)⟩
  · rw [hi]
    show J.stop items.length H
    rw [← hn]
    exact w.stops H gh
theorem serves_list {a : Addr} {xs : List V} {items : List Val} {h : Hv} (R0 : HR K g0 H0 h) (na : ¬ g0.own a) (s : SqL K H0 a xs) (r : VRs K g0 H0 items xs) : Serves K (Itl K a) g0 H0 (items, none) :=
  serves_of (n := xs.length) r.length.symm fun g H h E R _ => ⟨_, _, walk_list, sqL_ext R0 E na s, fun i x H' v hv y => by
    obtain ⟨rfl, e⟩ := y
    obtain ⟨z, e1, e2⟩ := r.get hv
    rw [e] at e1; cases e1
    exact ⟨Ext.refl, R, e2.extS R0 E⟩⟩
theorem serves_fz {a : Addr} {xs : List V} {items : List Val} {h : Hv} (R0 : HR K g0 H0 h) (s : FzL K H0 a xs) (r : VRs K g0 H0 items xs) : Serves K (Itl K a) g0 H0 (items, none) :=
  serves_of (n := xs.length) r.length.symm fun g H h E R _ => ⟨_, _, walk_list, (s.imp fun o s => E.keep _ _ s (R0.not_own s fun z => z)).sq, fun i x H' v hv y => by
    obtain ⟨rfl, e⟩ := y
    obtain ⟨z, e1, e2⟩ := r.get hv
    rw [e] at e1; cases e1
    exact ⟨Ext.refl, R, e2.extS R0 E⟩⟩
theorem serves_tup {a : Addr} {xs : List V} {items : List Val} {h : Hv} (R0 : HR K g0 H0 h) (s : SqT K H0 a xs) (r : VRs K g0 H0 items xs) : Serves K (Itt K a) g0 H0 (items, none) :=
  serves_of (n := xs.length) r.length.symm fun g H h E R _ => ⟨_, _, walk_tup, sqT_ext R0 E s, fun i x H' v hv y => by
    obtain ⟨rfl, e⟩ := y
    obtain ⟨z, e1, e2⟩ := r.get hv
    rw [e] at e1; cases e1
    exact ⟨Ext.refl, R, e2.extS R0 E⟩⟩
/-- a list of ours that must stay -/
theorem serves_ref {a : Addr} {items : List Val} {j : Nat} (hm : g0.m[j]? = some a) : Serves K (Itl K a) g0 H0 (items, some j) :=
  serves_of (n := items.length) rfl fun g H h E R ok => by
    have ok : h[j]? = some (.lst items) := ok
    obtain ⟨t, em, _⟩ := E.m
    have hm' : g.m[j]? = some a := by rw [em, List.getElem?_append_left (List.getElem?_eq_some_iff.mp hm).1]; exact hm
    obtain ⟨xs, e1, r⟩ := ref_at R ok hm'
    refine ⟨fun H => SqL K H a xs, YAt xs, by rw [r.length]; exact walk_list, SqL.of e1, fun i x H' v hv y => ?_⟩
    obtain ⟨rfl, e⟩ := y
    obtain ⟨z, e1, e2⟩ := r.get hv
    rw [e] at e1; cases e1
    exact ⟨Ext.refl, R, e2⟩
theorem serves_str {z : List Nat} : Serves K (Its (sOf z)) g0 H0 (z.map fun c => .str [c], none) :=
  serves_of (n := (sOf z).cps.size) (by simp [sOf]) fun g H h E R _ => ⟨_, _, walk_str, trivial, fun i x H' v hv y => by
    obtain ⟨rfl, c, e, rfl⟩ := y
    rw [List.getElem?_map] at hv
    simp [sOf] at e
    rw [e] at hv
    simp at hv
    subst hv
    exact ⟨Ext.refl, R, by simp only [VR]; rfl⟩⟩
/-- lo, lo + 1, .. -/
def rangeL (lo : Int) (n : Nat) : List Val := (List.range n).map fun i => .int (lo + (i : Nat))
theorem serves_range {lo : Int} {n : Nat} : Serves K (Itr lo n) g0 H0 (rangeL lo n, none) :=
  serves_of (n := n) (by simp [rangeL]) fun g H h E R _ => ⟨_, _, walk_range, trivial, fun i x H' v hv y => by
    obtain ⟨rfl, rfl⟩ := y
    unfold rangeL at hv
    rw [List.getElem?_map] at hv
    by_cases hi : i < n
    · rw [List.getElem?_range hi] at hv
      simp at hv
      subst hv
      exact ⟨Ext.refl, R, by simp only [VR]⟩
    · rw [List.getElem?_eq_none (by simp; omega)] at hv
      cases hv⟩
/-- pairs of two lists' items, each a new tuple -/
theorem serves_pair {J : It} {xs ys : List V} {l k : List Val} {n : Nat} {G : Hp → Prop} {h : Hv} (R0 : HR K g0 H0 h) (hn : n = (l.zip k).length) (w : Walk J n G (YPair (fun i => xs[i]?) (fun i => ys[i]?))) (hG : ∀ g H, ExtS g0 H0 g H → G H) (r : VRs K g0 H0 l xs) (q : VRs K g0 H0 k ys) :
    Serves K J g0 H0 ((l.zip k).map fun p => .tup [p.1, p.2], none) :=
  serves_of (n := n) (by simpa using hn) fun g H h E R _ => ⟨_, _, w, hG g H E, fun i x H' v hv y => by
    obtain ⟨T, x1, y1, rfl, nT, rfl, e1, e2⟩ := y
    rw [List.getElem?_map] at hv
    cases ez : (l.zip k)[i]? with
    | none => rw [ez] at hv; cases hv
    | some p =>
      rw [ez] at hv
      simp at hv
      subst hv
      obtain ⟨f1, f2⟩ := List.getElem?_zip_eq_some.mp ez
      obtain ⟨a1, b1, c1⟩ := r.get f1
      obtain ⟨a2, b2, c2⟩ := q.get f2
      have e1 : xs[i]? = some x1 := e1
      have e2 : ys[i]? = some y1 := e2
      rw [e1] at b1; cases b1
      rw [e2] at b2; cases b2
      obtain ⟨E1, R1⟩ := R.grow (o := .tup [x1, y1]) nT
      refine ⟨E1, R1, ?_⟩
      simp only [VR]
      exact ⟨T, _, rfl, SqT.of upd_same, .cons ((c1.extS R0 E).ext R E1) (.cons ((c2.extS R0 E).ext R E1) .nil)⟩⟩
end
/-! ### for x in e -/
def vIter (v : Val) (h : Hv) : Res Src := match v with
  | .tup l => .ok (l, none) h
  | .lst l => .ok (l, none) h
  | .fz l => .ok (l, none) h
  | .str s => if s.length ≤ lineN then .ok (s.map (fun c => .str [c]), none) h else .fail
  | .ref i => match h[i]? with
    | some (.lst l) => .ok (l, some i) h
    | _ => .fail
  | _ => .fail
def iSeq (d : Den) : DenG Src := fun l h => (d l h).bind vIter
/-- from an expression's result on, for what walks -/
theorem tG_I {K : PySem.W.Frag} {W : WX} {σ : L2.St} {g : Gh} {H : Hp} {l : Loc} {h : Hv} {α β : Type} {rel : Gh → Hp → α → β → Prop} {d : DenG α} {k : α → Hv → Res Src} {R : It → Hp → Prop} {R' : β → Hp → Prop} (S : SR K g H l σ) (hr : HR K g H h)
    (A : AfterI K W σ g H R ((d l h).bind k))
    (hk : ∀ v h1 g1 H1 x, Ext g H g1 H1 → SR K g1 H1 l σ → HR K g1 H1 h1 → rel g1 H1 v x → AfterI K W σ g1 H1 R (k v h1) → R' x H1) : tG K W rel d σ H R' := by
  refine ⟨g, l, h, S, hr, ?_⟩
  cases e : d l h with
  | ok v h1 =>
    rw [e] at A
    simp only [Res.bind_ok] at A
    intro g' H' x E R1 r
    refine hk v h1 g' H' x E (S.ext hr E) R1 r ?_
    cases ek : k v h1 with
    | ok s h2 => rw [ek] at A; exact ⟨A.1, fun g2 H2 J E2 => A.2 g2 H2 J (E.trans E2)⟩
    | exc x h2 => rw [ek] at A; exact fun g2 H2 c d E2 => A g2 H2 c d (E.trans E2)
    | fail => rw [ek] at A; exact A
  | exc x h1 => rw [e] at A; exact A
  | fail => rw [e] at A; exact A
section
variable {X : Cx} {W : WX}
theorem gi_seq {tg e : Expr} {d : Den} (he : GE X W e d) : GI X W tg e (iSeq d) := by
  refine ⟨fun pins s σ H R I ⟨g, l, h, S, Rh, A⟩ => ?_⟩
  have start : tG X.K W (vr X.K) d σ H fun x H1 => ∃ v h1 g1, HR X.K g1 H1 h1 ∧ VR X.K g1 H1 v x ∧ AfterI X.K W σ g1 H1 R (vIter v h1) :=
    tG_I S Rh A fun v h1 g1 H1 x E S1 R1 r1 A1 => ⟨v, h1, g1, R1, r1, A1⟩
  refine thn (he.run pins s σ H _ I start) fun u s1 ⟨x, H1, I1, r1, v, h1, g1, R1, rv, A1⟩ => ?_
  have lists : ∀ a xs items, x = .ref a → ¬ g1.own a → SqL X.K H1 a xs → VRs X.K g1 H1 items xs → AfterI X.K W σ g1 H1 R (.ok (items, none) h1) → wpAny (model X.prog X.w) X.A (pyIter u) (PIE X pins σ tg R) X.xe s1 := by
    rintro a xs items rfl na hq r A1
    cases r1
    obtain ⟨its, rv, p, hz⟩ := I1.list hq
    refine wpAny_pyIter_list p.isList (pi_one (tk := s1.toks) I1 _ (turn_list _ _) ⟨_, Heap.get?_push_size _ rfl, rfl, rfl⟩ (A1.2 g1 H1 _ Ext.refl R1 (by show items.length ≤ _; rw [r.length]; exact hz) (serves_list R1 na hq r)))
  cases v with
  | tup items =>
    simp only [VR] at rv
    obtain ⟨a, xs, rfl, hq, r⟩ := rv
    cases r1
    obtain ⟨its, rv, p, hz⟩ := I1.tuple hq
    exact wpAny_pyIter_tuple (show s1.heap.IsTuple a its.toArray from p) (pi_one (tk := s1.toks) I1 _ (turn_tuple _ _) ⟨_, Heap.get?_push_size _ rfl, rfl, rfl⟩ (A1.2 g1 H1 _ Ext.refl R1 (by show items.length ≤ _; rw [r.length]; exact hz) (serves_tup R1 hq r)))
  | lst items =>
    simp only [VR] at rv
    obtain ⟨a, xs, rfl, na, hq, r⟩ := rv
    exact lists a xs items rfl na (SqL.of hq) r A1
  | fz items =>
    simp only [VR] at rv
    obtain ⟨a, xs, rfl, hq, r⟩ := rv
    cases r1
    obtain ⟨its, rv, p, hz⟩ := I1.list hq.sq
    exact wpAny_pyIter_list p.isList (pi_one (tk := s1.toks) I1 _ (turn_list _ _) ⟨_, Heap.get?_push_size _ rfl, rfl, rfl⟩ (A1.2 g1 H1 _ Ext.refl R1 (by show items.length ≤ _; rw [r.length]; exact hz) (serves_fz R1 hq r)))
  | str z =>
    simp only [VR] at rv
    subst rv
    obtain ⟨t, rfl⟩ := r1
    simp only [vIter] at A1
    split at A1
    · rename_i hz
      have q := A1.2 g1 H1 _ Ext.refl R1 (by simpa using line_ok hz) serves_str
      cases ha : (sOf z).cps.all (· < 128)
      · exact wpAny_pyIter_wide ha (pi_one (tk := s1.toks) I1 _ (turn_str _ _ t "str_iterator" (.inr rfl)) ⟨_, Heap.get?_push_size _ rfl, rfl, rfl⟩ q)
      · exact wpAny_pyIter_ascii ha (pi_one (tk := s1.toks) I1 _ (turn_str _ _ t "str_ascii_iterator" (.inl rfl)) ⟨_, Heap.get?_push_size _ rfl, rfl, rfl⟩ q)
    · exact A1.elim
  | ref i =>
    simp only [vIter] at A1
    split at A1
    · rename_i items hi
      simp only [VR] at rv
      obtain ⟨a, rfl, hm⟩ := rv
      obtain ⟨xs, e1, r⟩ := ref_at R1 hi hm
      cases r1
      obtain ⟨its, rv, p, hz⟩ := I1.list (SqL.of e1)
      exact wpAny_pyIter_list p.isList (pi_one (tk := s1.toks) I1 _ (turn_list _ _) ⟨_, Heap.get?_push_size _ rfl, rfl, rfl⟩ (A1.2 g1 H1 _ Ext.refl R1 (by show items.length ≤ _; rw [r.length]; exact hz) (serves_ref hm)))
    · exact A1.elim
  | _ => exact A1.elim
/-! ### range -/
def vRange1 (v : Val) (h : Hv) : Res Src := match v with
  | .int j => if -(2 ^ 62) ≤ j ∧ j ≤ 16777216 then .ok (rangeL 0 j.toNat, none) h else .fail
  | _ => .fail
def vRange2 (v u : Val) (h : Hv) : Res Src := match v, u with
  | .int i, .int j => if -(2 ^ 62) ≤ i ∧ i < 2 ^ 62 ∧ -(2 ^ 62) ≤ j ∧ j < 2 ^ 62 ∧ j - i ≤ 16777216 then .ok (rangeL i (j - i).toNat, none) h else .fail
  | _, _ => .fail
def iRange1 (d : Den) : DenG Src := fun l h => (d l h).bind vRange1
def iRange2 (a b : Den) : DenG Src := fun l h => (a l h).bind fun v h1 => (b l h1).bind fun u h2 => vRange2 v u h2
theorem rangeL_len (lo : Int) (n : Nat) : (rangeL lo n).length = n := by simp [rangeL]
theorem gi_range1 {tg a : Expr} {d : Den} {p pos : Pos} (he : GE X W a d) (hm : X.mg "range" = none) (hg : Gl X "range" := by rfl) (hs : starEach [a] X.env = (false, eval a X.env) :: starEach [] X.env := by rfl) (hs1 : starEach [a] X.env = [(false, eval a X.env)] := by rfl) : GI X W tg (.Call (.Name "range" p) [a] [] pos) (iRange1 d) := by
  refine PI.imp (pi_range1 hg hm (pa_cons he pa_nil hs) hs1) fun pins s σ H R I ⟨g, l, h, S, Rh, A⟩ => ?_
  refine tG_I S Rh A fun v h1 g1 H1 x E S1 R1 r1 A1 => ?_
  cases v with
  | int j =>
    simp only [VR] at r1
    subst r1
    simp only [vRange1] at A1
    split at A1
    · rename_i c
      exact ⟨j, rfl, c.1, by omega, A1.2 g1 H1 _ Ext.refl R1 (by show (rangeL 0 j.toNat).length ≤ _; rw [rangeL_len, sizeLine_eq]; omega) serves_range⟩
    · exact A1.elim
  | _ => exact A1.elim
theorem gi_range2 {tg a b : Expr} {da db : Den} {p pos : Pos} (ha : GE X W a da) (hb : GE X W b db) (hm : X.mg "range" = none) (hg : Gl X "range" := by rfl) (hs : starEach [a, b] X.env = (false, eval a X.env) :: starEach [b] X.env := by rfl) (hs1 : starEach [a, b] X.env = [(false, eval a X.env), (false, eval b X.env)] := by rfl)
    (hs2 : starEach [b] X.env = (false, eval b X.env) :: starEach [] X.env := by rfl) (hs3 : starEach [b] X.env = [(false, eval b X.env)] := by rfl) : GI X W tg (.Call (.Name "range" p) [a, b] [] pos) (iRange2 da db) := by
  refine PI.imp (pi_range2 hg hm (pa_cons ha (pa_cons hb pa_nil hs2) hs) hs1 hs3) fun pins s σ H R I ⟨g, l, h, S, Rh, A⟩ => ?_
  refine tG_I S Rh A fun v h1 g1 H1 x E S1 R1 r1 A1 => ?_
  refine tG_I S1 R1 A1 fun u h2 g2 H2 y E2 S2 R2 r2 A2 => ?_
  cases v with
  | int i =>
    cases u with
    | int j =>
      simp only [VR] at r1 r2
      subst r1 r2
      simp only [vRange2] at A2
      split at A2
      · rename_i c
        exact ⟨i, j, rfl, ⟨c.1, c.2.1, c.2.2.1, c.2.2.2.1⟩, A2.2 g2 H2 _ Ext.refl R2 (by show (rangeL i (j - i).toNat).length ≤ _; rw [rangeL_len, sizeLine_eq]; omega) serves_range⟩
      · exact A2.elim
    | _ => exact A2.elim
  | _ => exact A2.elim

/-! ### comprehensions -/
/-- the target of a comprehension: it writes the block's own slots alone -/
def tTc (K : PySem.W.Frag) (vs : List Nat) (d : Tg) : TG := fun x σ H Q => ∃ g l h v, SR K g H l σ ∧ HR K g H h ∧ VR K g H v x ∧ match d v l h with
  | .ok l' h' => ∀ g' H' σ', Ext g H g' H' → HR K g' H' h' → SR K g' H' l' σ' → wipe σ' vs = wipe σ vs → Q σ' H'
  | _ => False
def tTcs (K : PySem.W.Frag) (vs : List Nat) (d : Tgs) : TGs := fun x σ H Q => ∃ g l h v, SR K g H l σ ∧ HR K g H h ∧ VRs K g H v x ∧ match d v l h with
  | .ok l' h' => ∀ g' H' σ', Ext g H g' H' → HR K g' H' h' → SR K g' H' l' σ' → wipe σ' vs = wipe σ vs → Q σ' H'
  | _ => False
def GC (X : Cx) (vs : List Nat) (tg : Expr) (d : Tg) : Prop := PG X tg (tTc X.K vs d)
def GCs (X : Cx) (vs : List Nat) (tg : List Expr) (d : Tgs) : Prop := PGs X tg (tTcs X.K vs d)
theorem wipe_set : ∀ {vs : List Nat} {σ : L2.St} {i : Nat} {x : Option V}, i ∈ vs → wipe (σ.set i x) vs = wipe σ vs
  | [], _, _, _, h => nomatch h
  | v :: vs, σ, i, x, h => by
    unfold wipe
    by_cases hi : i ∈ vs
    · rw [wipe_set hi]
    · have hv : i = v := by
        rcases List.mem_cons.mp h with h | h
        · exact h
        · exact absurd h hi
      subst hv
      have gen : ∀ (us : List Nat), wipe (σ.set i x) us = (wipe σ us).set i x ∨ wipe (σ.set i x) us = wipe σ us := by
        intro us
        induction us with
        | nil => exact .inl rfl
        | cons u us ih =>
          unfold wipe
          rcases ih with e | e
          · rw [e]
            by_cases hu : i = u
            · subst hu; right; rw [List.set_set]
            · left; rw [List.set_comm _ _ hu]
          · right; rw [e]
      rcases gen vs with e | e
      · rw [e, List.set_set]
      · rw [e]
theorem gc_name (i : Nat) {x : Str} {pos : Pos} {vs : List Nat} (hN : X.N.Nodup) (hv : i ∈ vs := by decide) (hi : X.N[i]? = some x := by rfl) (hx : L2.Loc X.env.scope x := by first | exact Or.inl rfl | exact Or.inr rfl) (hf : X.fn x = true ∨ X.env.scope.names.lookup x = some .local := by first | exact .inl rfl | exact .inr rfl) : GC X vs (.Name x pos) (gName i) := by
  refine PG.imp (pg_name hN hi hx hf) fun y σ H Q ⟨g, l, h, v, S, R, r, A⟩ => ?_
  exact A g H _ Ext.refl R (S.set i r) (wipe_set hv)
theorem gcs_nil {vs : List Nat} : GCs X vs [] gsNil := by
  refine PGs.imp pgs_nil fun y σ H Q ⟨g, l, h, v, S, R, r, A⟩ => ?_
  cases v with
  | nil =>
    simp only [VRs] at r
    exact ⟨r, A g H σ Ext.refl R S rfl⟩
  | cons v vs => exact A.elim
theorem gcs_cons {vs : List Nat} {e : Expr} {es : List Expr} {t : Tg} {u : Tgs} (h1 : GC X vs e t) (h2 : GCs X vs es u)
    (hs : (assignEach (e :: es) X.env).map (·.2) = assign e X.env :: (assignEach es X.env).map (·.2) := by rfl) : GCs X vs (e :: es) (gsCons t u) := by
  refine PGs.imp (pgs_cons h1 h2 hs) fun y σ H Q ⟨g, l, h, v, S, R, r, A⟩ => ?_
  cases v with
  | nil => exact A.elim
  | cons v ws =>
    simp only [VRs] at r
    obtain ⟨x, r', rfl, q1, q2⟩ := r
    refine ⟨x, r', rfl, g, l, h, v, S, R, q1, ?_⟩
    simp only [gsCons] at A
    cases e : t v l h with
    | ok l1 h1 =>
      rw [e] at A
      simp only [TRes.bind_ok] at A
      intro g' H' σ' E R' S' w
      refine ⟨g', l1, h1, ws, S', R', q2.ext R E, ?_⟩
      cases e2 : u ws l1 h1 with
      | ok l2 h2 =>
        rw [e2] at A
        exact fun g2 H2 σ2 E2 R2 S2 w2 => A g2 H2 σ2 (E.trans E2) R2 S2 (w2.trans w)
      | exc x l1 h1 => rw [e2] at A; exact A
      | fail => rw [e2] at A; exact A
    | exc x l1 h1 => rw [e] at A; exact A
    | fail => rw [e] at A; exact A
theorem gc_tup {vs : List Nat} {es : List Expr} {k : Nat} {t : Tgs} {n : Nat} {pos : Pos} (hc : X.calm = true) (h : GCs X vs es t)
    (hn : (assignEach es X.env).length = n := by rfl) (hst : (assignEach es X.env).findIdx? (·.1) = none := by rfl) : GC X vs (.Tuple es k pos) (gTup n t) := by
  refine PG.imp (pg_tup hc h hn hst) fun y σ H Q ⟨g, l, h, v, S, R, r, A⟩ => ?_
  cases v with
  | tup ws =>
    simp only [VR] at r
    obtain ⟨a, xs, rfl, q1, q2⟩ := r
    unfold gTup at A
    simp only at A
    split at A
    · rename_i l' h' e
      split at e
      · rename_i hl2
        exact ⟨a, xs, rfl, q1, by rw [← q2.length]; exact hl2, g, l, h, ws, S, R, q2, by rw [e]; exact A⟩
      · cases e
    · exact A.elim
  | _ => exact A.elim
end
end GH
set_option Elab.async false
set_option linter.all false
set_option maxRecDepth 100000
set_option maxHeartbeats 1000000
set_option autoImplicit false
/-! List comprehensions, one clause. -/
namespace GH
open PySem PySem.Spec PyProof.Rows L2

section
variable {K : PySem.W.Frag} {g : Gh} {H : Hp} {D : Addr} {ds zs : HO}
mutual
theorem VR.reset (hD : D ∈ g.r) (e0 : H D = some ds) (mu : Mut (some ds)) : ∀ {v : Val} {x : V}, VR K g H v x → VR K g (upd H D zs) v x
  | .non, x, q => by simpa only [VR] using q
  | .bl b, x, q => by simpa only [VR] using q
  | .int i, x, q => by simpa only [VR] using q
  | .str s, x, q => by simpa only [VR] using q
  | .tup l, x, q => by
    simp only [VR] at q ⊢
    obtain ⟨a, xs, e, s, r⟩ := q
    refine ⟨a, xs, e, ?_, VRs.reset hD e0 mu r⟩
    rcases s with (s | ⟨o, s⟩) | s
    · exact .inl (.inl (by rw [upd_ne (show a ≠ D by rintro rfl; rw [e0] at s; cases s; exact mu)]; exact s))
    · exact .inl (.inr ⟨o, by rw [upd_ne (show a ≠ D by rintro rfl; rw [e0] at s; cases s; exact mu)]; exact s⟩)
    · exact .inr s
  | .lst l, x, q => by
    simp only [VR] at q ⊢
    obtain ⟨a, xs, e, n, s, r⟩ := q
    exact ⟨a, xs, e, n, by rw [upd_ne (show a ≠ D by rintro rfl; exact n (.inr hD))]; exact s, VRs.reset hD e0 mu r⟩
  | .fz l, x, q => by
    simp only [VR] at q ⊢
    obtain ⟨a, xs, e, s, r⟩ := q
    exact ⟨a, xs, e, s.imp fun o s => by rw [upd_ne (show a ≠ D by rintro rfl; rw [e0] at s; cases s; exact mu)]; exact s, VRs.reset hD e0 mu r⟩
  | .ref i, x, q => by simpa only [VR] using q
theorem VRs.reset (hD : D ∈ g.r) (e0 : H D = some ds) (mu : Mut (some ds)) : ∀ {l : List Val} {xs : List V}, VRs K g H l xs → VRs K g (upd H D zs) l xs
  | [], xs, q => by simpa only [VRs] using q
  | v :: l, xs, q => by
    simp only [VRs] at q ⊢
    obtain ⟨x, r, e, q1, q2⟩ := q
    exact ⟨x, r, e, VR.reset hD e0 mu q1, VRs.reset hD e0 mu q2⟩
end
theorem HR.reset {h : Hv} (R : HR K g H h) (hD : D ∈ g.r) (e0 : H D = some ds) (mu : Mut (some ds)) (mz : Mut (some zs)) : HR K g (upd H D zs) h := by
  refine ⟨R.len, R.nd, R.dis, fun a ha => ?_, fun i o a e1 e2 => ?_⟩
  · by_cases q : a = D
    · subst q; exact ⟨_, upd_same, mz⟩
    · obtain ⟨ob, e, mo⟩ := R.al a ha
      exact ⟨ob, by rw [upd_ne q]; exact e, mo⟩
  · have hne : a ≠ D := fun z => R.dis a (List.mem_of_getElem? e2) (by rw [z]; exact hD)
    have q := R.obj i o a e1 e2
    cases o with
    | lst l => obtain ⟨xs, e, r⟩ := q; exact ⟨xs, by rw [upd_ne hne]; exact e, r.reset hD e0 mu⟩
    | dic l => obtain ⟨xs, e, r⟩ := q; exact ⟨xs, by rw [upd_ne hne]; exact e, r.1, r.2.reset hD e0 mu⟩
    | ins c f => obtain ⟨dx, gs, e, r⟩ := q; exact ⟨dx, gs, by rw [upd_ne hne]; exact e, r.1, r.2.reset hD e0 mu⟩
theorem Ext.reset {g' : Gh} {H' : Hp} {xs : HO} (E : Ext g H g' H') (hD : D ∉ g.m) (e0 : H D = some ds) : Ext g (upd H D xs) g' (upd H' D xs) := by
  obtain ⟨t, em, n⟩ := E.m
  refine ⟨⟨t, em, fun b hb => ?_⟩, E.r, fun b o e hb => ?_, fun b o e => ?_⟩
  · have hne : b ≠ D := by rintro rfl; rw [n _ hb] at e0; cases e0
    rw [upd_ne hne]; exact n b hb
  · by_cases q : b = D
    · subst q; rw [upd_same] at e ⊢; exact e
    · rw [upd_ne q] at e ⊢; exact E.keep b o e hb
  · by_cases q : b = D
    · subst q; exact ⟨_, upd_same⟩
    · rw [upd_ne q] at e ⊢; exact E.there b o e
mutual
theorem VR.own {g' : Gh} {t : List Addr} (hm : g'.m = g.m ++ t) (ho : ∀ a, ¬ g.own a → ¬ g'.own a) : ∀ {v : Val} {x : V}, VR K g H v x → VR K g' H v x
  | .non, x, q => by simpa only [VR] using q
  | .bl b, x, q => by simpa only [VR] using q
  | .int i, x, q => by simpa only [VR] using q
  | .str s, x, q => by simpa only [VR] using q
  | .tup l, x, q => by
    simp only [VR] at q ⊢
    obtain ⟨a, xs, e, s, r⟩ := q
    exact ⟨a, xs, e, s, VRs.own hm ho r⟩
  | .lst l, x, q => by
    simp only [VR] at q ⊢
    obtain ⟨a, xs, e, n, s, r⟩ := q
    exact ⟨a, xs, e, ho a n, s, VRs.own hm ho r⟩
  | .fz l, x, q => by
    simp only [VR] at q ⊢
    obtain ⟨a, xs, e, s, r⟩ := q
    exact ⟨a, xs, e, s, VRs.own hm ho r⟩
  | .ref i, x, q => by
    simp only [VR] at q ⊢
    obtain ⟨a, e, h⟩ := q
    exact ⟨a, e, by rw [hm, List.getElem?_append_left (List.getElem?_eq_some_iff.mp h).1]; exact h⟩
theorem VRs.own {g' : Gh} {t : List Addr} (hm : g'.m = g.m ++ t) (ho : ∀ a, ¬ g.own a → ¬ g'.own a) : ∀ {l : List Val} {xs : List V}, VRs K g H l xs → VRs K g' H l xs
  | [], xs, q => by simpa only [VRs] using q
  | v :: l, xs, q => by
    simp only [VRs] at q ⊢
    obtain ⟨x, r, e, q1, q2⟩ := q
    exact ⟨x, r, e, VR.own hm ho q1, VRs.own hm ho q2⟩
end
theorem HR.less {r' : List Addr} {h : Hv} (R : HR K g H h) (hr : ∀ b ∈ r', b ∈ g.r) : HR K ⟨g.m, r'⟩ H h := by
  have hm : (Gh.mk g.m r').m = g.m ++ [] := by simp
  have ho : ∀ a, ¬ g.own a → ¬ (Gh.mk g.m r').own a := fun a n z => n (z.elim .inl fun z => .inr (hr a z))
  refine ⟨R.len, R.nd, fun a ha z => R.dis a ha (hr a z), fun a ha => R.al a (hr a ha), fun i o a e1 e2 => ?_⟩
  have q := R.obj i o a e1 e2
  cases o with
  | lst l => obtain ⟨xs, e, r⟩ := q; exact ⟨xs, e, r.own hm ho⟩
  | dic l => obtain ⟨xs, e, r⟩ := q; exact ⟨xs, e, r.1, r.2.own hm ho⟩
  | ins c f => obtain ⟨dx, gs, e, r⟩ := q; exact ⟨dx, gs, e, r.1, r.2.own hm ho⟩
theorem SR.extS {g' : Gh} {H' : Hp} {h : Hv} {l : Loc} {σ : L2.St} (S : SR K g H l σ) (R : HR K g H h) (E : ExtS g H g' H') : SR K g' H' l σ :=
  ⟨S.len, fun i v e => by obtain ⟨x, e1, e2⟩ := S.at_ i v e; exact ⟨x, e1, e2.extS R E⟩⟩
/-- the slots of the block's own names forgotten -/
def wipeL (l : Loc) : List Nat → Loc
  | [] => l
  | v :: vs => (wipeL l vs).set v none
theorem wipeL_some {l : Loc} {i : Nat} {x : Val} : ∀ {vs : List Nat}, (wipeL l vs)[i]? = some (some x) → l[i]? = some (some x) ∧ i ∉ vs
  | [], h => ⟨h, by simp⟩
  | v :: vs, h => by
    unfold wipeL at h
    by_cases hi : v = i
    · subst hi
      by_cases hv : v < (wipeL l vs).length
      · rw [List.getElem?_set_self hv] at h; cases h
      · rw [List.getElem?_eq_none (by simpa using hv)] at h; cases h
    · rw [List.getElem?_set_ne hi] at h
      obtain ⟨h1, h2⟩ := wipeL_some h
      exact ⟨h1, by simp only [List.mem_cons, not_or]; exact ⟨fun e => hi e.symm, h2⟩⟩
theorem wipeL_len (l : Loc) : ∀ vs, (wipeL l vs).length = l.length
  | [] => rfl
  | v :: vs => by unfold wipeL; rw [List.length_set, wipeL_len l vs]
theorem SR.wipe {l : Loc} {σ : L2.St} (S : SR K g H l σ) (vs : List Nat) : SR K g H (wipeL l vs) (L2.wipe σ vs) := by
  refine ⟨by rw [wipeL_len, L2.wipe_length, S.len], fun i v e => ?_⟩
  obtain ⟨e1, n⟩ := wipeL_some e
  obtain ⟨x, e2, r⟩ := S.at_ i v e1
  exact ⟨x, by rw [L2.wipe_out n]; exact e2, r⟩
theorem wipe_wipe {σ : L2.St} {vs : List Nat} : ∀ {us : List Nat}, (∀ u ∈ us, u ∈ vs) → L2.wipe (L2.wipe σ us) vs = L2.wipe σ vs
  | [], _ => rfl
  | u :: us, h => by
    show L2.wipe ((L2.wipe σ us).set u none) vs = _
    rw [wipe_set (h u (List.mem_cons_self ..)), wipe_wipe fun w hw => h w (List.mem_cons_of_mem _ hw)]
end

/-! ### the block -/
open Classical in
noncomputable def lcL (t : Tg) (c : DenG Bool) (e : Den) (s : Src) : List Val → List Val → Loc → Hv → Res (List Val)
  | [], acc, _, h => if srcOk s h then .ok acc h else .fail
  | x :: r, acc, l, h => if srcOk s h then (match t x l h with
    | .ok l1 h1 => (match c l1 h1 with
      | .ok b h2 => if b = true then (match e l1 h2 with
        | .ok v h3 => lcL t c e s r (acc ++ [v]) l h3
        | _ => .fail) else lcL t c e s r acc l h2
      | _ => .fail)
    | _ => .fail) else .fail
/-- what becomes of the items: a list that nobody writes, or one of ours -/
def frozen (ys : List Val) (h : Hv) : Res Val := .ok (.lst ys) h
def ours (ys : List Val) (h : Hv) : Res Val := .ok (.ref h.length) (h ++ [.lst ys])
noncomputable def dLc (fin : List Val → Hv → Res Val) (vs : List Nat) (di : DenG Src) (t : Tg) (c : DenG Bool) (e : Den) : Den := fun l h => (di l h).bind fun s h1 => (lcL t c e s s.1 [] (wipeL l vs) h1).bind fin
def W0 : WX := fun _ _ _ _ => False
/-- what a list at a new place may become -/
def FinOk (K : PySem.W.Frag) (fin : List Val → Hv → Res Val) : Prop := ∀ {W : WX} {σ : L2.St} {g1 g2 : Gh} {H1 H : Hp} {h : Hv} {Q : VK} {D : Addr} {ys : List Val} {xs : List V},
  H1 D = none → (∀ b ∈ g1.r, ∃ o, H1 b = some o) → D ∈ g2.r → g2.r = D :: g1.r → H D = some (.lst xs) → Ext g1 H1 ⟨g2.m, g1.r⟩ H → HR K g2 H h → VRs K g2 H ys xs → After K W (vr K) σ g1 H1 Q (fin ys h) → Q (.ref D) H
theorem fin_frozen {K : PySem.W.Frag} : FinOk K frozen := by
  intro W σ g1 g2 H1 H h Q D ys xs nD al hD er eD E R r A
  have hr : ∀ b ∈ g1.r, b ∈ g2.r := fun b hb => by rw [er]; exact List.mem_cons_of_mem _ hb
  refine A ⟨g2.m, g1.r⟩ H (.ref D) E (R.less hr) ?_
  simp only [VR]
  refine ⟨D, xs, rfl, ?_, eD, r.own (g' := ⟨g2.m, g1.r⟩) (t := []) (by simp) (show ∀ a, ¬ g2.own a → ¬ (Gh.mk g2.m g1.r).own a from fun a n z => n (z.elim .inl fun z => .inr (hr a z)))⟩
  rintro (z | z)
  · exact R.dis D z hD
  · obtain ⟨o, e⟩ := al D z
    rw [nD] at e; cases e
theorem fin_ours {K : PySem.W.Frag} : FinOk K ours := by
  intro W σ g1 g2 H1 H h Q D ys xs nD al hD er eD E R r A
  have hr : ∀ b ∈ g1.r, b ∈ g2.r := fun b hb => by rw [er]; exact List.mem_cons_of_mem _ hb
  have nm : D ∉ g2.m := fun z => R.dis D z hD
  have nr : D ∉ g1.r := fun z => by obtain ⟨o, e⟩ := al D z; rw [nD] at e; cases e
  obtain ⟨t, em, n⟩ := E.m
  have em : g2.m = g1.m ++ t := em
  have E' : Ext g1 H1 ⟨g2.m ++ [D], g1.r⟩ H := ⟨⟨t ++ [D], by show g2.m ++ [D] = _; rw [em, List.append_assoc], fun b hb => by
    rcases List.mem_append.mp hb with hb | hb
    · exact n b hb
    · rw [List.mem_singleton.mp hb]; exact nD⟩, rfl, E.keep, E.there⟩
  have hm : (Gh.mk (g2.m ++ [D]) g1.r).m = g2.m ++ [D] := rfl
  have ho : ∀ a, ¬ g2.own a → ¬ (Gh.mk (g2.m ++ [D]) g1.r).own a := fun a ha z => by
    rcases z with z | z
    · rcases List.mem_append.mp z with z | z
      · exact ha (.inl z)
      · exact ha (.inr (by rw [List.mem_singleton.mp z]; exact hD))
    · exact ha (.inr (hr a z))
  refine A ⟨g2.m ++ [D], g1.r⟩ H (.ref D) E' ⟨by simp [R.len], ?_, fun a ha => ?_, fun a ha => R.al a (hr a ha), fun i o a e1 e2 => ?_⟩ ?_
  · show (g2.m ++ [D]).Nodup
    refine List.nodup_append.mpr ⟨R.nd, by simp, fun a ha b hb => ?_⟩
    rw [List.mem_singleton.mp hb]
    rintro rfl
    exact nm ha
  · have ha : a ∈ g2.m ++ [D] := ha
    rcases List.mem_append.mp ha with ha | ha
    · exact fun z => R.dis a ha (hr a z)
    · rw [List.mem_singleton.mp ha]; exact nr
  · have e2 : (g2.m ++ [D])[i]? = some a := e2
    by_cases hi : i < h.length
    · rw [List.getElem?_append_left hi] at e1
      rw [List.getElem?_append_left (by rw [R.len]; exact hi)] at e2
      have q := R.obj i o a e1 e2
      cases o with
      | lst l => obtain ⟨xs, e, r⟩ := q; exact ⟨xs, e, r.own hm ho⟩
      | dic l => obtain ⟨xs, e, r⟩ := q; exact ⟨xs, e, r.1, r.2.own hm ho⟩
      | ins c f => obtain ⟨dx, gs, e, r⟩ := q; exact ⟨dx, gs, e, r.1, r.2.own hm ho⟩
    · have hi' : i = h.length := by
        have := (List.getElem?_eq_some_iff.mp e1).1
        simp at this
        omega
      subst hi'
      rw [List.getElem?_append_right (Nat.le_refl _)] at e1
      rw [List.getElem?_append_right (by rw [R.len]; exact Nat.le_refl _)] at e2
      simp at e1
      rw [R.len] at e2
      simp at e2
      subst e1 e2
      exact ⟨xs, eD, r.own hm ho⟩
  · simp only [VR]
    refine ⟨D, rfl, ?_⟩
    show (g2.m ++ [D])[h.length]? = some D
    rw [← R.len]
    simp
section
variable {K : PySem.W.Frag}
theorem lc_red {W : WX} {fin : List Val → Hv → Res Val} (hfin : FinOk K fin) {vs : List Nat} {di : DenG Src} {t : Tg} {c : DenG Bool} {e : Den} {σ : L2.St} {H : Hp} {Q : VK} (z : tG K W (vr K) (dLc fin vs di t c e) σ H Q) :
    tLc (tI K W di) (tTc K vs t) (tG K W0 br c) (tG K W0 (vr K) e) vs σ H Q := by
  obtain ⟨g, l, h, S, R, A⟩ := z
  refine ⟨g, l, h, S, R, ?_⟩
  unfold dLc at A
  unfold AfterI
  cases ed : di l h with
  | exc x h1 => rw [ed] at A; exact A
  | fail => rw [ed] at A; exact A
  | ok s h1 =>
    rw [ed] at A
    simp only [Res.bind_ok] at A
    have ok1 : srcOk s h1 := by
      cases hs1 : s.1 with
      | nil =>
        rw [hs1] at A
        simp only [lcL] at A
        split at A
        · assumption
        · exact A.elim
      | cons x r =>
        rw [hs1] at A
        simp only [lcL] at A
        split at A
        · assumption
        · exact A.elim
    refine ⟨ok1, fun g1 H1 J E1 R1 hz sv D nD => ?_⟩
    have A := After.ext E1 A
    have al : ∀ b ∈ g1.r, ∃ o, H1 b = some o := fun b hb => R1.own_there (.inr hb)
    have S1 := S.ext R E1
    -- the new list is put aside
    have ES : ExtS g1 H1 ⟨g1.m, D :: g1.r⟩ (upd H1 D (.lst [])) := ⟨⟨[], by simp, by simp⟩, ⟨[D], rfl, fun b hb => by rw [List.mem_singleton.mp hb]; exact nD⟩, fun b o e hb => by rw [upd_ne (ne_of_none e nD)]; exact e⟩
    have RD : HR K ⟨g1.m, D :: g1.r⟩ (upd H1 D (.lst [])) h1 := by
      refine ⟨R1.len, R1.nd, fun a ha z => ?_, fun a ha => ?_, fun i o a e1 e2 => ?_⟩
      · rcases List.mem_cons.mp z with z | z
        · subst z; exact R1.fresh nD (.inl ha)
        · exact R1.dis a ha z
      · rcases List.mem_cons.mp ha with z | z
        · subst z; exact ⟨_, upd_same, trivial⟩
        · obtain ⟨ob, e, mo⟩ := R1.al a z
          exact ⟨ob, by rw [upd_ne (ne_of_none e nD)]; exact e, mo⟩
      · have q := R1.obj i o a e1 e2
        cases o with
        | lst l => obtain ⟨xs, e, r⟩ := q; exact ⟨xs, by rw [upd_ne (ne_of_none e nD)]; exact e, r.extS R1 ES⟩
        | dic l => obtain ⟨xs, e, r⟩ := q; exact ⟨xs, by rw [upd_ne (ne_of_none e nD)]; exact e, r.1, r.2.extS R1 ES⟩
        | ins c f => obtain ⟨dx, gs, e, r⟩ := q; exact ⟨dx, gs, by rw [upd_ne (ne_of_none e nD)]; exact e, r.1, r.2.extS R1 ES⟩
    let Wd : Nat → Hp → Prop := fun i H => ∃ g2 h2 ys xs, H D = some (.lst xs) ∧ Ext ⟨g1.m, D :: g1.r⟩ (upd H1 D (.lst [])) g2 (upd H D (.lst [])) ∧ HR K g2 H h2 ∧ VRs K g2 H ys xs ∧ xs.length ≤ i ∧ i ≤ s.1.length ∧
      After K W (vr K) σ g1 H1 Q ((lcL t c e s (s.1.drop i) ys (wipeL l vs) h2).bind fin)
    refine ⟨fun i m H => m = s.1.length - i ∧ Wd i H, ⟨s.1.length, by simp, ⟨g1.m, D :: g1.r⟩, h1, [], [], upd_same, by rw [upd_upd]; exact Ext.refl, RD, VRs.nil, by simp, Nat.zero_le _, by simpa using A⟩, ?_⟩
    rintro i m H ⟨rfl, g2, h2, ys, xs, eD, E, R2, r, hl, hil, A⟩
    have hDr : D ∈ g2.r := by rw [E.r]; exact List.mem_cons_self ..
    have hDm : D ∉ g2.m := fun z => R2.dis D z hDr
    obtain ⟨tm, em, nm⟩ := E.m
    have em : g2.m = g1.m ++ tm := em
    have nm : ∀ b ∈ tm, H1 b = none := fun b hb => by
      have q := nm b hb
      have hne : b ≠ D := by rintro rfl; rw [upd_same] at q; cases q
      rw [upd_ne hne] at q
      exact q
    have keep : ∀ b o, H1 b = some o → b ∉ g1.m → H b = some o := fun b o e hb => by
      have hne := ne_of_none e nD
      have q := E.keep b o (by rw [upd_ne hne]; exact e) hb
      rw [upd_ne hne] at q
      exact q
    have E2S : ExtS g1 H1 g2 H := ⟨⟨tm, em, nm⟩, ⟨[D], E.r, fun b hb => by rw [List.mem_singleton.mp hb]; exact nD⟩, fun b o e hb => keep b o e fun z => hb (.inl z)⟩
    have E2 : Ext g1 H1 ⟨g2.m, g1.r⟩ H := ⟨⟨tm, em, nm⟩, rfl, keep, fun b o e => by
      have hne := ne_of_none e nD
      obtain ⟨o', q⟩ := E.there b o (by rw [upd_ne hne]; exact e)
      rw [upd_ne hne] at q
      exact ⟨o', q⟩⟩
    have S2 : SR K g2 H (wipeL l vs) (wipe σ vs) := (S1.extS R1 E2S).wipe vs
    cases hd : s.1.drop i with
    | nil =>
      have hle : s.1.length ≤ i := List.drop_eq_nil_iff.mp hd
      rw [hd] at A
      simp only [lcL] at A
      split at A
      · rename_i ok
        exact .inl ⟨(sv g2 H h2 E2S R2 ok i).2 (Nat.le_antisymm hil hle), hfin nD al hDr E.r eD E2 R2 r A⟩
      · exact A.elim
    | cons v rest =>
      have hlt : i < s.1.length := by
        by_cases q : i < s.1.length
        · exact q
        · rw [List.drop_eq_nil_iff.mpr (by omega)] at hd; cases hd
      have hv : s.1[i]? = some v := by
        have q := congrArg List.head? hd
        rw [List.head?_drop] at q
        simpa using q
      have hr : s.1.drop (i + 1) = rest := by
        have q := congrArg List.tail hd
        rw [List.tail_drop] at q
        simpa using q
      rw [hd] at A
      simp only [lcL] at A
      split at A
      · rename_i ok
        obtain ⟨go, yl⟩ := (sv g2 H h2 E2S R2 ok i).1 v hv
        refine .inr ⟨go, Wd (i + 1), fun H' q => ⟨s.1.length - (i + 1), by omega, rfl, q⟩, fun x H' y => ?_⟩
        obtain ⟨E3, R3, rx⟩ := yl x H' y
        refine ⟨g2, wipeL l vs, h2, v, S2.ext R2 E3, R3, rx, ?_⟩
        cases et : t v (wipeL l vs) h2 with
        | exc x l1 h1 => rw [et] at A; exact A
        | fail => rw [et] at A; exact A
        | ok l3 h3 =>
          rw [et] at A
          simp only at A
          intro g4 H4 σ4 E4 R4 S4 w4
          refine ⟨w4.trans (wipe_wipe fun _ hu => hu), g4, l3, h3, S4, R4, ?_⟩
          cases ec : c l3 h3 with
          | exc x h1 => rw [ec] at A; exact A.elim
          | fail => rw [ec] at A; exact A.elim
          | ok b h5 =>
            rw [ec] at A
            simp only at A
            intro g5 H5 b' E5 R5 eb
            obtain rfl : b = b' := eb
            have E25 := (E3.trans E4).trans E5
            have keepD : ∀ {g6 : Gh} {H6 : Hp}, Ext g2 H g6 H6 → H6 D = some (.lst xs) := fun E6 => E6.keep D _ eD hDm
            cases b with
            | false =>
              rw [if_neg Bool.false_ne_true] at A ⊢
              exact ⟨g5, h5, ys, xs, keepD E25, E.trans (E25.reset hDm eD), R5, r.ext R2 E25, by omega, hlt, by rw [hr]; exact A⟩
            | true =>
              rw [if_pos rfl] at A ⊢
              refine ⟨g5, l3, h5, S4.ext R4 E5, R5, ?_⟩
              cases ee : e l3 h5 with
              | exc x h1 => rw [ee] at A; exact A.elim
              | fail => rw [ee] at A; exact A.elim
              | ok y h6 =>
                rw [ee] at A
                simp only at A
                intro g6 H6 xv E6 R6 rv
                have E26 := E25.trans E6
                have hD6 : D ∈ g6.r := by rw [E26.r]; exact hDr
                have k6 := keepD E26
                refine ⟨xs, k6, by omega, g6, h6, ys ++ [y], xs ++ [xv], upd_same, ?_, R6.reset hD6 k6 trivial trivial, ((r.ext R2 E26).append (.one rv)).reset hD6 k6 trivial, by simp; omega, hlt, by rw [hr]; exact A⟩
                rw [upd_upd]
                exact E.trans (E26.reset hDm eD)
      · exact A.elim
end
section
variable {X : Cx} {W : WX}
def GTs (X : Cx) (W : WX) (es : List Expr) (d : DenG Bool) : Prop := PTs X es (tG X.K W br d)
def dYes : DenG Bool := fun _ h => .ok true h
theorem gts_nil : GTs X W [] dYes := ⟨fun pins s σ H Q I ⟨g, l, h, S, R, A⟩ => (pts_nil (X := X)).run pins s σ H Q I (A g H true Ext.refl R rfl)⟩
theorem gts_one {c : Expr} {d : DenG Bool} (hc : GT X W c d) : GTs X W [c] d := pts_one hc
theorem ge_lc {fin : List Val → Hv → Res Val} (hfin : FinOk X.K fin) {elt tg iter : Expr} {ifs : List Expr} {scope : Scope} (own : List (Str × Nat)) {pos : Pos} {di : DenG Src} {t : Tg} {c : DenG Bool} {e : Den} (hc : X.calm = true) (hN : X.N.Nodup) (hi : GI X W tg iter di)
    (hg : ∀ (s : Shared) (H : Hp) (C : Addr) (cl : List (Str × Addr)) (fp : List Addr), GC (X.blk s H scope (compEnvC scope cl C X.env) fp) (own.map (·.2)) tg t) (ht : ∀ (s : Shared) (H : Hp) (C : Addr) (cl : List (Str × Addr)) (fp : List Addr), GTs (X.blk s H scope (compEnvC scope cl C X.env) fp) W0 ifs c)
    (he : ∀ (s : Shared) (H : Hp) (C : Addr) (cl : List (Str × Addr)) (fp : List Addr), GE (X.blk s H scope (compEnvC scope cl C X.env) fp) W0 elt e) (ok : blkC X.N X.env.scope scope own = true := by first | rfl | decide +kernel) (hs : ∀ x, foldedSetIterable iter X.env x = pure x := by intro _; rfl) :
    GE X W (.ListComp elt [⟨tg, iter, ifs, 0⟩] scope pos) (dLc fin (own.map (·.2)) di t c e) :=
  PE.imp (pe_lc (g := tTc X.K (own.map fun p : Str × Nat => p.2) t) (tt := tG X.K W0 br c) (te := tG X.K W0 (vr X.K) e) hc hN hi (blkOk_by ok) hg ht he hs) fun σ H Q z => lc_red hfin z
theorem gs_setLc {fin : List Val → Hv → Res Val} (hfin : FinOk X.K fin) (i : Nat) {y : Str} {py : Pos} {elt tg iter : Expr} {ifs : List Expr} {scope : Scope} (own : List (Str × Nat)) {pos spos : Pos} {di : DenG Src} {t : Tg} {c : DenG Bool} {e : Den} (hc : X.calm = true) (hN : X.N.Nodup) (hi : GI X W tg iter di)
    (hg : ∀ (s : Shared) (H : Hp) (C : Addr) (cl : List (Str × Addr)) (fp : List Addr), GC (X.blk s H scope (compEnvC scope cl C X.env) fp) (own.map (·.2)) tg t) (ht : ∀ (s : Shared) (H : Hp) (C : Addr) (cl : List (Str × Addr)) (fp : List Addr), GTs (X.blk s H scope (compEnvC scope cl C X.env) fp) W0 ifs c)
    (he : ∀ (s : Shared) (H : Hp) (C : Addr) (cl : List (Str × Addr)) (fp : List Addr), GE (X.blk s H scope (compEnvC scope cl C X.env) fp) W0 elt e)
    (hy : X.N[i]? = some y := by rfl) (hyl : X.env.scope.names.lookup y = some .local := by rfl) (hsw : swapsWith (.ListComp elt [⟨tg, iter, ifs, 0⟩] scope pos) (some (.Name y py)) spos.line X.env = pure true := by exact sw_true rfl rfl rfl (by decide +kernel))
    (ok : blkC X.N X.env.scope scope own = true := by first | rfl | decide +kernel) (hs : ∀ x, foldedSetIterable iter X.env x = pure x := by intro _; rfl) :
    GS X W (.Assign [.Name y py] (.ListComp elt [⟨tg, iter, ifs, 0⟩] scope pos) spos) (sAsg (dLc fin (own.map (·.2)) di t c e) (gName i)) := by
  refine PS.imp (ps_setLc (g := tTc X.K (own.map fun p : Str × Nat => p.2) t) (tt := tG X.K W0 br c) (te := tG X.K W0 (vr X.K) e) hc hN hy hyl hsw hi (blkOk_by ok) hg ht he hs) fun D σ H ⟨g, l, h, S, R, A⟩ => ?_
  refine lc_red hfin ?_
  refine tG_to S R A fun v h1 g1 H1 x E S1 R1 r1 A1 => ?_
  exact A1 g1 H1 _ Ext.refl R1 (S1.set i r1)
end
end GH
set_option Elab.async false
set_option linter.all false
set_option maxRecDepth 100000
set_option maxHeartbeats 1000000
set_option autoImplicit false
/-! Defs, calls, raise, try. -/
namespace GH
open PySem PySem.Spec PyProof.Rows L2

/-! ### what a def yields -/
def runDef (n : Nat) (body : Stm) (args : List Val) (h : Hv) : Res Val := match body (args.map some ++ List.replicate (n - args.length) none) h with
  | .nx _ h' => .ok .non h'
  | .rt v h' => .ok v h'
  | .exc e _ h' => .exc e h'
  | _ => .fail
/-- behind a call -/
def AfterC (K : PySem.W.Frag) (g : Gh) (H : Hp) (Q : VK) (E : XK) : Res Val → Prop
  | .ok v h' => ∀ g' H' x, Ext g H g' H' → HR K g' H' h' → VR K g' H' v x → Q x H'
  | .exc e h' => ∀ g' H' cls d, Ext g H g' H' → HR K g' H' h' → ER K g' H' e cls d → E cls d H'
  | .fail => False
abbrev DF := List Val → Hv → Res Val
def spG (K : PySem.W.Frag) (D : DF) (n : Nat) : Sp := fun vs H Q E => vs.length = n ∧ ∃ g h args, HR K g H h ∧ VRs K g H args vs ∧ AfterC K g H Q E (D args h)

/-! ### lists that are handed back are frozen, what is no longer reached is forgotten -/
mutual
def frz (f : Nat → Option Val) : Val → Option Val
  | .non => some .non
  | .bl b => some (.bl b)
  | .int i => some (.int i)
  | .str s => some (.str s)
  | .tup l => (frzs f l).map .tup
  | .lst l => (frzs f l).map .lst
  | .fz l => (frzs f l).map .fz
  | .ref i => f i
def frzs (f : Nat → Option Val) : List Val → Option (List Val)
  | [] => some []
  | v :: l => (frz f v).bind fun w => (frzs f l).map (w :: ·)
end
def frzN (h : Hv) (n0 : Nat) : Nat → Nat → Option Val
  | 0, i => if i < n0 then some (.ref i) else none
  | k + 1, i => if i < n0 then some (.ref i) else match h[i]? with
    | some (.lst l) => (frzs (frzN h n0 k) l).map .lst
    | _ => none
mutual
def below (n : Nat) : Val → Bool
  | .tup l => belows n l
  | .lst l => belows n l
  | .fz l => belows n l
  | .ref i => decide (i < n)
  | _ => true
def belows (n : Nat) : List Val → Bool
  | [] => true
  | v :: l => below n v && belows n l
end
def belowO (n : Nat) : Ob → Bool
  | .lst l => belows n l
  | .dic l => belows n (l.map (·.2))
  | .ins _ fs => belows n (fs.map (·.2))
def kept (n : Nat) (h h' : Hv) : Prop := n ≤ h'.length ∧ ∀ i < n, h'[i]? = h[i]? ∨ ∀ o, h'[i]? = some o → belowO n o = true
open Classical in
noncomputable def tidy (r : Res Val) (h : Hv) : Res Val := match r with
  | .ok v h' => if kept h.length h h' then (match frz (frzN h' h.length h'.length) v with
    | some w => .ok w (h'.take h.length)
    | none => .fail) else .fail
  | .exc e h' => if kept h.length h h' ∧ e.fs = [] then .exc e (h'.take h.length) else .fail
  | .fail => .fail
section
variable {K : PySem.W.Frag} {g g' : Gh} {H H0 : Hp} {t : List Addr}
mutual
theorem VR.cut {n : Nat} (hn : n = g.m.length) (hm : g'.m = g.m ++ t) (ho : ∀ a, ¬ g'.own a → ¬ g.own a) : ∀ {v : Val} {x : V}, below n v = true → VR K g' H v x → VR K g H v x
  | .non, x, _, q => by simpa only [VR] using q
  | .bl b, x, _, q => by simpa only [VR] using q
  | .int i, x, _, q => by simpa only [VR] using q
  | .str s, x, _, q => by simpa only [VR] using q
  | .tup l, x, b, q => by
    simp only [VR] at q ⊢
    obtain ⟨a, xs, e, s, r⟩ := q
    exact ⟨a, xs, e, s, VRs.cut hn hm ho b r⟩
  | .lst l, x, b, q => by
    simp only [VR] at q ⊢
    obtain ⟨a, xs, e, n, s, r⟩ := q
    exact ⟨a, xs, e, ho a n, s, VRs.cut hn hm ho b r⟩
  | .fz l, x, b, q => by
    simp only [VR] at q ⊢
    obtain ⟨a, xs, e, s, r⟩ := q
    exact ⟨a, xs, e, s, VRs.cut hn hm ho b r⟩
  | .ref i, x, b, q => by
    simp only [VR] at q ⊢
    obtain ⟨a, e, h⟩ := q
    have hi : i < n := by simpa [below] using b
    exact ⟨a, e, by rw [hm, List.getElem?_append_left (by omega)] at h; exact h⟩
theorem VRs.cut {n : Nat} (hn : n = g.m.length) (hm : g'.m = g.m ++ t) (ho : ∀ a, ¬ g'.own a → ¬ g.own a) : ∀ {l : List Val} {xs : List V}, belows n l = true → VRs K g' H l xs → VRs K g H l xs
  | [], xs, _, q => by simpa only [VRs] using q
  | v :: l, xs, b, q => by
    simp only [VRs] at q ⊢
    obtain ⟨x, r, e, q1, q2⟩ := q
    have b : below n v = true ∧ belows n l = true := by simpa [belows] using b
    exact ⟨x, r, e, VR.cut hn hm ho b.1 q1, VRs.cut hn hm ho b.2 q2⟩
end
mutual
theorem VR.low {n : Nat} (hn : n = g.m.length) : ∀ {v : Val} {x : V}, VR K g H v x → below n v = true
  | .non, x, q => rfl
  | .bl b, x, q => rfl
  | .int i, x, q => rfl
  | .str s, x, q => rfl
  | .tup l, x, q => by
    simp only [VR] at q
    obtain ⟨a, xs, e, s, r⟩ := q
    exact VRs.low hn r
  | .lst l, x, q => by
    simp only [VR] at q
    obtain ⟨a, xs, e, n, s, r⟩ := q
    exact VRs.low hn r
  | .fz l, x, q => by
    simp only [VR] at q
    obtain ⟨a, xs, e, s, r⟩ := q
    exact VRs.low hn r
  | .ref i, x, q => by
    simp only [VR] at q
    obtain ⟨a, e, h⟩ := q
    have := (List.getElem?_eq_some_iff.mp h).1
    simp only [below, decide_eq_true_eq]
    omega
theorem VRs.low {n : Nat} (hn : n = g.m.length) : ∀ {l : List Val} {xs : List V}, VRs K g H l xs → belows n l = true
  | [], xs, q => rfl
  | v :: l, xs, q => by
    simp only [VRs] at q
    obtain ⟨x, r, e, q1, q2⟩ := q
    simp only [belows, VR.low hn q1, VRs.low hn q2, Bool.and_self]
end
theorem OR.low {n : Nat} (hn : n = g.m.length) {a : Addr} {o : Ob} (q : OR K g H a o) : belowO n o = true := by
  cases o with
  | lst l => obtain ⟨xs, e, r⟩ := q; exact r.low hn
  | dic l => obtain ⟨xs, e, r⟩ := q; exact r.2.low hn
  | ins c f => obtain ⟨dx, gs, e, r⟩ := q; exact r.2.low hn
theorem OR.cut {n : Nat} (hn : n = g.m.length) (hm : g'.m = g.m ++ t) (ho : ∀ a, ¬ g'.own a → ¬ g.own a) {a : Addr} {o : Ob} (b : belowO n o = true) (q : OR K g' H a o) : OR K g H a o := by
  cases o with
  | lst l => obtain ⟨xs, e, r⟩ := q; exact ⟨xs, e, r.cut hn hm ho b⟩
  | dic l => obtain ⟨xs, e, r⟩ := q; exact ⟨xs, e, r.1, r.2.cut hn hm ho b⟩
  | ins c f => obtain ⟨dx, gs, e, r⟩ := q; exact ⟨dx, gs, e, r.1, r.2.cut hn hm ho b⟩
mutual
theorem frz_ok {f : Nat → Option Val} (hf : ∀ i w x, f i = some w → VR K g' H (.ref i) x → VR K g H w x) (ho : ∀ a, ¬ g'.own a → ¬ g.own a) : ∀ {v w : Val} {x : V}, frz f v = some w → VR K g' H v x → VR K g H w x
  | .non, w, x, e, q => by simp only [frz, Option.some.injEq] at e; subst e; simpa only [VR] using q
  | .bl b, w, x, e, q => by simp only [frz, Option.some.injEq] at e; subst e; simpa only [VR] using q
  | .int i, w, x, e, q => by simp only [frz, Option.some.injEq] at e; subst e; simpa only [VR] using q
  | .str s, w, x, e, q => by simp only [frz, Option.some.injEq] at e; subst e; simpa only [VR] using q
  | .tup l, w, x, e, q => by
    simp only [frz, Option.map_eq_some_iff] at e
    obtain ⟨k, e, rfl⟩ := e
    simp only [VR] at q ⊢
    obtain ⟨a, xs, e2, s, r⟩ := q
    exact ⟨a, xs, e2, s, frzs_ok hf ho e r⟩
  | .lst l, w, x, e, q => by
    simp only [frz, Option.map_eq_some_iff] at e
    obtain ⟨k, e, rfl⟩ := e
    simp only [VR] at q ⊢
    obtain ⟨a, xs, e2, n, s, r⟩ := q
    exact ⟨a, xs, e2, ho a n, s, frzs_ok hf ho e r⟩
  | .fz l, w, x, e, q => by
    simp only [frz, Option.map_eq_some_iff] at e
    obtain ⟨k, e, rfl⟩ := e
    simp only [VR] at q ⊢
    obtain ⟨a, xs, e2, s, r⟩ := q
    exact ⟨a, xs, e2, s, frzs_ok hf ho e r⟩
  | .ref i, w, x, e, q => hf i w x e q
theorem frzs_ok {f : Nat → Option Val} (hf : ∀ i w x, f i = some w → VR K g' H (.ref i) x → VR K g H w x) (ho : ∀ a, ¬ g'.own a → ¬ g.own a) : ∀ {l k : List Val} {xs : List V}, frzs f l = some k → VRs K g' H l xs → VRs K g H k xs
  | [], k, xs, e, q => by simp only [frzs, Option.some.injEq] at e; subst e; simpa only [VRs] using q
  | v :: l, k, xs, e, q => by
    simp only [frzs, Option.bind_eq_some_iff, Option.map_eq_some_iff] at e
    obtain ⟨w, e1, k', e2, rfl⟩ := e
    simp only [VRs] at q ⊢
    obtain ⟨x, r, e3, q1, q2⟩ := q
    exact ⟨x, r, e3, frz_ok hf ho e1 q1, frzs_ok hf ho e2 q2⟩
end
theorem frzN_ok {h h' : Hv} (R : HR K g H0 h) (R' : HR K g' H h') (E : Ext g H0 g' H) (hm : g'.m = g.m ++ t) (ho : ∀ a, ¬ g'.own a → ¬ g.own a) : ∀ (k i : Nat) (w : Val) (x : V), frzN h' h.length k i = some w → VR K g' H (.ref i) x → VR K g H w x := by
  intro k
  have low : ∀ (i : Nat) (x : V), i < h.length → VR K g' H (.ref i) x → VR K g H (.ref i) x := fun i x hi q => by
    simp only [VR] at q ⊢
    obtain ⟨a, e, q⟩ := q
    exact ⟨a, e, by rw [hm, List.getElem?_append_left (by rw [R.len]; exact hi)] at q; exact q⟩
  induction k with
  | zero =>
    intro i w x e q
    simp only [frzN] at e
    split at e
    · rename_i hi
      cases e
      exact low i x hi q
    · cases e
  | succ k ih =>
    intro i w x e q
    simp only [frzN] at e
    split at e
    · rename_i hi
      cases e
      exact low i x hi q
    · rename_i hi
      split at e
      · rename_i l hl
        simp only [Option.map_eq_some_iff] at e
        obtain ⟨ys, e, rfl⟩ := e
        simp only [VR] at q
        obtain ⟨a, rfl, q⟩ := q
        obtain ⟨xs, e1, r⟩ := R'.obj i _ a hl q
        simp only [VR]
        refine ⟨a, xs, rfl, ?_, e1, frzs_ok ih ho e r⟩
        rintro (z | z)
        · obtain ⟨j, hj, ej⟩ := List.getElem_of_mem z
          have hj' : g'.m[j]? = some a := by
            rw [hm, List.getElem?_append_left hj, List.getElem?_eq_getElem hj, ej]
          have h1 := List.getElem?_eq_some_iff.mp q
          have h2 := List.getElem?_eq_some_iff.mp hj'
          obtain ⟨l1, p1⟩ := h1
          obtain ⟨l2, p2⟩ := h2
          have e3 : i = j := (List.getElem_inj R'.nd).mp (p1.trans p2.symm)
          rw [R.len] at hj
          omega
        · exact R'.dis a (List.mem_of_getElem? q) (by rw [E.r]; exact z)
      · cases e
theorem tidy_ok {h : Hv} {Q : VK} {E : XK} {r : Res Val} (R : HR K g H0 h) (A : AfterC K g H0 Q E (tidy r h)) : AfterC K g H0 Q E r := by
  have main : ∀ {g' : Gh} {H : Hp} {h' : Hv}, Ext g H0 g' H → HR K g' H h' → kept h.length h h' → Ext g H0 g H ∧ HR K g H (h'.take h.length) := fun {g' H h'} X R' kp => by
    obtain ⟨t, hm, nt⟩ := X.m
    have ho : ∀ a, ¬ g'.own a → ¬ g.own a := fun a n z => n (z.elim (fun z => .inl (by rw [hm]; exact List.mem_append_left _ z)) fun z => .inr (by rw [X.r]; exact z))
    refine ⟨⟨⟨[], by simp, by simp⟩, rfl, X.keep, X.there⟩, ⟨?_, R.nd, R.dis, fun a ha => R'.al a (by rw [X.r]; exact ha), fun i o a e1 e2 => ?_⟩⟩
    · rw [List.length_take, Nat.min_eq_left kp.1]; exact R.len
    · have hi : i < h.length := by rw [← R.len]; exact (List.getElem?_eq_some_iff.mp e2).1
      rw [List.getElem?_take_of_lt hi] at e1
      have hq : OR K g' H a o := R'.obj i o a e1 (by rw [hm, List.getElem?_append_left (by rw [R.len]; exact hi)]; exact e2)
      refine OR.cut (n := h.length) R.len.symm hm ho ?_ hq
      rcases kp.2 i hi with z | z
      · rw [z] at e1
        exact (R.obj i o a e1 e2).low R.len.symm
      · exact z o e1
  cases r with
  | ok v h' =>
    intro g' H x X R' rv
    simp only [tidy] at A
    split at A
    · rename_i kp
      split at A
      · rename_i w ew
        obtain ⟨E1, R1⟩ := main X R' kp
        obtain ⟨t, hm, nt⟩ := X.m
        have ho : ∀ a, ¬ g'.own a → ¬ g.own a := fun a n z => n (z.elim (fun z => .inl (by rw [hm]; exact List.mem_append_left _ z)) fun z => .inr (by rw [X.r]; exact z))
        exact A g H x E1 R1 (frz_ok (frzN_ok R R' X hm ho _) ho ew rv)
      · exact A.elim
    · exact A.elim
  | exc e h' =>
    intro g' H cls d X R' re
    simp only [tidy] at A
    split at A
    · rename_i kp
      obtain ⟨E1, R1⟩ := main X R' kp.1
      refine A g H cls d E1 R1 ?_
      unfold ER at re ⊢
      rw [kp.2] at re ⊢
      exact re
    · exact A.elim
  | fail => exact A
end

/-! ### a def keeps what its body yields -/
abbrev WD (E : XK) : WX := fun cls d _ H => E cls d H
section
variable {P : Program} {w : World} {K : PySem.W.Frag} {mg : Str → Option Value} {base : Heap}
theorem fn_G {name qual : Str} {params : Arguments} {body : List Stmt} {scope : Scope} {f : Addr} {fd : FuncData} {N ps : List Str} {k : Nat} {d : Stm} {D : DF} {dvs : List V} {kws : List (Str × V)} (F : FunD K name qual params body scope dvs kws f fd) (S : FnScope N ps scope)
    (hD : ∀ args h, args.length = ps.length → D args h = runDef N.length d args h ∨ D args h = tidy (runDef N.length d args h) h)
    (hbody : ∀ (cdv : Value) (A : Around) (outer : List Env) (s : Shared) (H : Hp) (E : XK), Room k (A.deeper (envOfC qual scope s.heap.objs.size f cdv)) →
      PassesOwn (model P w) (A.deeper (envOfC qual scope s.heap.objs.size f cdv)) (envOfC qual scope s.heap.objs.size f cdv) (cxOf (L2.CX P w) P w K mg base N qual scope f cdv A outer s H E).xe →
      Takes (cxOf (L2.CX P w) P w K mg base N qual scope f cdv A outer s H E) (WD E) →
      GSs (cxOf (L2.CX P w) P w K mg base N qual scope f cdv A outer s H E) (WD E) body d) : FnOk P w K mg base (L2.CX P w) (k + 1) f fd ps (spG K D ps.length) := by
  refine F.ok S (fun vs H Q E h => h.1) (fun cdv A outer s H vs Q E hr h => ⟨tS K (WD E) d, hbody cdv A outer s H E hr (passes_of rfl) (takes_of rfl rfl rfl rfl), ?_⟩)
  obtain ⟨hl, g, h, args, R, r, A⟩ := h
  have A : AfterC K g H Q E (runDef N.length d args h) := by
    rcases hD args h (by rw [r.length, hl]) with e | e
    · rw [e] at A; exact A
    · rw [e] at A; exact tidy_ok R A
  refine ⟨g, args.map some ++ List.replicate (N.length - args.length) none, h, ?_, R, ?_⟩
  · unfold L2.start
    refine ⟨by simp [r.length], fun i v e => ?_⟩
    by_cases hi : i < args.length
    · rw [List.getElem?_append_left (by simpa using hi), List.getElem?_map] at e
      cases ea : args[i]? with
      | none => rw [ea] at e; cases e
      | some a =>
        rw [ea] at e
        cases e
        obtain ⟨x, e1, e2⟩ := r.get ea
        exact ⟨x, by rw [List.getElem?_append_left (by simpa [← r.length] using hi), List.getElem?_map, e1]; rfl, e2⟩
    · rw [List.getElem?_append_right (by simpa using hi), List.getElem?_replicate] at e
      split at e <;> cases e
  · unfold runDef at A
    cases e : d (args.map some ++ List.replicate (N.length - args.length) none) h with
    | nx l h1 =>
      rw [e] at A
      intro g' H' σ' X R' S'
      exact A g' H' .non X R' (by simp only [VR])
    | rt v h1 => rw [e] at A; exact A
    | exc x l h1 =>
      rw [e] at A
      intro g' H' σ' cls dd X R' S' re
      exact A g' H' cls dd X R' re
    | bk l h1 => rw [e] at A; exact False.elim A
    | ct l h1 => rw [e] at A; exact False.elim A
    | fail => rw [e] at A; exact A
end

/-! ### calls -/
def dCall (D : DF) (r : DenG (List Val)) : Den := fun l h => (r l h).bind fun vs h1 => D vs h1
section
variable {X : Cx} {W : WX}
theorem spG_of {D : DF} {n : Nat} {σ : L2.St} {g : Gh} {H : Hp} {h : Hv} {Q : VK} {args : List Val} {vs : List V} (hn : args.length = n) (R : HR X.K g H h) (r : VRs X.K g H args vs) (A : After X.K W (vr X.K) σ g H Q (D args h)) : spG X.K D n vs H Q (WE W σ) := by
  refine ⟨by rw [← r.length]; exact hn, g, h, args, R, r, ?_⟩
  cases e : D args h with
  | ok v h1 => rw [e] at A; exact A
  | exc x h1 => rw [e] at A; exact A
  | fail => rw [e] at A; exact A
def arity (n : Nat) (D : DF) : DF := fun args h => if args.length = n then D args h else .fail
theorem ge_call {D : DF} {k : Nat} {f : Addr} {fd : FuncData} {ps : List Str} {x : Str} {p pos : Pos} {e : Expr} {es : List Expr} {da : DenG (List Val)} (F : FnOk X.prog X.w X.K X.mg X.base (L2.CX X.prog X.w) k f fd ps (spG X.K D ps.length)) (hr : Room k X.A) (tk : Takes X W)
    (hm : X.mg x = some (.ref f)) (hk : PySem.W.keepIn X.K (.ref f) = true) (hb : Binds X.K fd ps []) (ha : GA X W (e :: es) da) (hn : ∀ l h vs h', da l h = .ok vs h' → vs.length = ps.length) (hg : Gl X x := by rfl) (hdb : (x == ("__debug__" : Str)) = false := by decide +kernel)
    (he : starEach (e :: es) X.env = (false, eval e X.env) :: starEach es X.env := by rfl) (hpl : (backTo pos (starEach es X.env)).any (·.1) = false := by rfl) : GE X W (.Call (.Name x p) (e :: es) [] pos) (dCall D da) := by
  refine PE.imp (pe_callS F hr hg hm hk hb (fun σ => passAt tk σ) ha hdb he hpl) fun σ H Q ⟨g, l, h, S, R, A⟩ => ?_
  refine ⟨g, l, h, S, R, ?_⟩
  unfold dCall at A
  cases ed : da l h with
  | ok vs h1 =>
    rw [ed] at A
    intro g' H' ws E R' r
    exact spG_of (hn l h vs h1 ed) R' r (After.ext E A)
  | exc x h1 => rw [ed] at A; exact A
  | fail => rw [ed] at A; exact A

/-! ### raise, try -/
def sRaise (c : List Nat) : Stm := fun l h => .exc ⟨c, []⟩ l h
theorem gs_raise (c : List Nat) {x m : Str} {j : Nat} {p p2 pos pos2 : Pos} (hc : X.calm = true) (tk : Takes X W) (q : PySem.W.excIn X.K (clsA X.K c) He.veBase "ValueError.__new__" = true) (gC : X.mg x = some (.ref (clsA X.K c))) (kC : PySem.W.keepIn X.K (.ref (clsA X.K c)) = true)
    (h1 : PySem.W.subIn X.K (.ref (clsA X.K c)) (.type "BaseException") = some true) (h2 : PySem.W.typeIn X.K (.ref (clsA X.K c)) = some (.type "type")) (hg : Gl X x := by rfl) (hdb : (x == ("__debug__" : Str)) = false := by decide +kernel) :
    GS X W (.Raise (some (.Call (.Name x p) [.Constant (.str m) j p2] [] pos)) none pos2) (sRaise c) := by
  refine PS.imp (ps_raise hc tk (pmk_own PySem.F.excBase_ValueError q gC kC (raises_own h1 h2) hg hdb)) fun D σ H ⟨g, l, h, S, R, A⟩ => ?_
  exact A g H σ _ none Ext.refl R S ⟨rfl, rfl⟩
def SRes.noExc (r : SRes) : SRes := match r with
  | .exc _ _ _ => .fail
  | r => r
@[simp] theorem SRes.noExc_nx (l : Loc) (h : Hv) : (SRes.nx l h).noExc = .nx l h := rfl
@[simp] theorem SRes.noExc_rt (v : Val) (h : Hv) : (SRes.rt v h).noExc = .rt v h := rfl
/-- body; where it raises what the class takes, the suite -/
def sTry (tbl : List (List Nat × Bool)) (body suite : Stm) : Stm := fun l h => match body l h with
  | .exc e l1 h1 => (match tbl.lookup e.c with
    | some true => (suite l1 h1).noExc
    | some false => .exc e l1 h1
    | none => .fail)
  | r => r
theorem AfterS.mono {K : PySem.W.Frag} {W W' : WX} {g : Gh} {H : Hp} {D : Ends} {r : SRes} (A : AfterS K W g H D r) (h : ∀ cls d σ H, W cls d σ H → W' cls d σ H) : AfterS K W' g H D r := by
  cases r with
  | exc e l h1 => exact fun g' H' σ' cls d E R S re => h _ _ _ _ (A g' H' σ' cls d E R S re)
  | nx l h1 => exact A
  | bk l h1 => exact A
  | ct l h1 => exact A
  | rt l h1 => exact A
  | fail => exact A
theorem gs_try (tbl : List (List Nat × Bool)) {x : Str} {c : Value} {body suite : List Stmt} {b₀ : Stmt} {np pos pos' : Pos} {db ds : Stm} (hs : X.stack = X.env :: X.outer) (hf : X.env.frame = some X.env.locals) (hc : Names X x c) (tk : Takes X W)
    (ht : ∀ p ∈ tbl, PySem.W.exmOne X.K (.ref (clsA X.K p.1)) c = some p.2)
    (hb : ∀ (W' : WX) (pn : List (Addr × Obj)) (xe : Value → Shared → Prop), Takes (X.tr pn xe) W' → PassesOwn (model X.prog X.w) X.A X.env xe → GSs (X.tr pn xe) W' body db)
    (hsu : ∀ (a : Addr) (pn : List (Addr × Obj)), GSs (X.suite a pn) W0 (b₀ :: suite) ds) :
    GS X W (.Try body [.ExceptHandler (some (.Name x np)) none (b₀ :: suite) pos'] [] [] pos) (sTry tbl db ds) := by
  refine PS.imp (ps_try_only (tb := fun W' => tS X.K W' db) (ts := fun a cls d => tS X.K W0 ds) hs hf hc tk hb (fun a oe cls d pn _ _ => hsu a _)) fun D σ H ⟨g, l, h, S, R, A⟩ => ?_
  refine ⟨g, l, h, S, R, ?_⟩
  unfold sTry at A
  cases e : db l h with
  | nx l1 h1 => rw [e] at A; exact A
  | bk l1 h1 => rw [e] at A; exact A
  | ct l1 h1 => rw [e] at A; exact A
  | rt l1 h1 => rw [e] at A; exact A
  | fail => rw [e] at A; exact A
  | exc x1 l1 h1 =>
    rw [e] at A
    simp only at A
    intro g' H' σ' cls d E R' S' re
    cases el : tbl.lookup x1.c with
    | none => rw [el] at A; exact A.elim
    | some b =>
      rw [el] at A
      have hm : ∃ y, (y, b) ∈ tbl ∧ y = x1.c := by
        have gen : ∀ (tb : List (List Nat × Bool)), tb.lookup x1.c = some b → ∃ y, (y, b) ∈ tb ∧ y = x1.c := by
          intro tb
          induction tb with
          | nil => intro z; cases z
          | cons p tb ih =>
            intro z
            rw [List.lookup_cons] at z
            split at z
            · rename_i q
              cases z
              exact ⟨p.1, List.mem_cons_self .., (by simpa using q : x1.c = p.1).symm⟩
            · obtain ⟨y, h1, h2⟩ := ih z
              exact ⟨y, List.mem_cons_of_mem _ h1, h2⟩
        exact gen tbl el
      obtain ⟨y, hy, rfl⟩ := hm
      have he := ht _ hy
      rw [← re.1] at he
      refine ⟨b, he, fun hb a na => ?_, fun hb => ?_⟩
      · subst hb
        have A2 : AfterS X.K W g' H' D (ds l1 h1).noExc := AfterS.ext E A
        refine ⟨g', l1, h1, S', R', ?_⟩
        cases es : ds l1 h1 with
        | exc x2 l2 h2 => rw [es] at A2; exact False.elim A2
        | nx l2 h2 => rw [es] at A2; exact A2
        | bk l2 h2 => rw [es] at A2; exact A2
        | ct l2 h2 => rw [es] at A2; exact A2
        | rt l2 h2 => rw [es] at A2; exact A2
        | fail => rw [es] at A2; exact A2
      · subst hb
        exact A g' H' σ' cls d E R' S' re
end
end GH
set_option Elab.async false
set_option linter.all false
set_option maxRecDepth 100000
set_option maxHeartbeats 1000000
set_option autoImplicit false
/-! ==, in, isinstance, slices, built-ins over lists, dicts. -/
namespace GH
open PySem PySem.Spec PyProof.Rows L2

/-! ### values as data -/
mutual
def pd : Val → PyData
  | .non => .none
  | .bl b => .bool b
  | .int i => .int i
  | .str s => .str (sOf s)
  | .tup l => .tuple (pds l)
  | .lst l => .list (pds l)
  | .fz l => .list (pds l)
  | .ref _ => .none
def pds : List Val → List PyData
  | [] => []
  | v :: l => pd v :: pds l
end
mutual
/-- no object of the heap in it, texts of proper signs -/
def okV : Val → Bool
  | .str s => s.all fun c => decide (c < 0x110000)
  | .tup l => okVs l
  | .lst l => okVs l
  | .fz l => okVs l
  | .ref _ => false
  | _ => true
def okVs : List Val → Bool
  | [] => true
  | v :: l => okV v && okVs l
end
mutual
def dpV : Val → Nat
  | .tup l => dpVs l + 1
  | .lst l => dpVs l + 1
  | .fz l => dpVs l + 1
  | _ => 0
def dpVs : List Val → Nat
  | [] => 0
  | v :: l => max (dpV v) (dpVs l)
end
mutual
theorem pd_depth : ∀ v : Val, (pd v).depth = dpV v
  | .non => rfl
  | .bl b => rfl
  | .int i => rfl
  | .str s => rfl
  | .tup l => by simp only [pd, PyData.depth, dpV, pds_depth l]
  | .lst l => by simp only [pd, PyData.depth, dpV, pds_depth l]
  | .fz l => by simp only [pd, PyData.depth, dpV, pds_depth l]
  | .ref i => rfl
theorem pds_depth : ∀ l : List Val, PyData.depthAll (pds l) = dpVs l
  | [] => rfl
  | v :: l => by simp only [pds, PyData.depthAll, dpVs, pd_depth v, pds_depth l]
end
mutual
theorem pd_lay : ∀ v : Val, okV v = true → (pd v).canLay0 = true
  | .non, _ => rfl
  | .bl b, _ => rfl
  | .int i, _ => rfl
  | .str s, h => by
    simp only [pd, PyData.canLay0, PyData.strOk, sOf]
    simpa [okV] using h
  | .tup l, h => by simp only [pd, PyData.canLay0]; exact pds_lay l h
  | .lst l, h => by simp only [pd, PyData.canLay0]; exact pds_lay l h
  | .fz l, h => by simp only [pd, PyData.canLay0]; exact pds_lay l h
  | .ref i, h => by cases h
theorem pds_lay : ∀ l : List Val, okVs l = true → PyData.canLayAll0 (pds l) = true
  | [], _ => rfl
  | v :: l, h => by
    have h : okV v = true ∧ okVs l = true := by simpa [okVs] using h
    simp only [pds, PyData.canLayAll0, pd_lay v h.1, pds_lay l h.2, Bool.and_self]
end
section
variable {K : PySem.W.Frag} {g : Gh} {H : Hp}
mutual
theorem VR.dp : ∀ {v : Val} {x : V}, okV v = true → VR K g H v x → Dp K H x (pd v)
  | .non, x, _, q => by simp only [VR] at q; subst q; exact .non
  | .bl b, x, _, q => by simp only [VR] at q; subst q; exact .bl b
  | .int i, x, _, q => by simp only [VR] at q; subst q; exact .int i
  | .str s, x, _, q => by simp only [VR] at q; subst q; exact .str _
  | .tup l, x, o, q => by
    simp only [VR] at q
    obtain ⟨a, xs, rfl, s, r⟩ := q
    exact .tup s (VRs.dp o r)
  | .lst l, x, o, q => by
    simp only [VR] at q
    obtain ⟨a, xs, rfl, _, s, r⟩ := q
    exact .lst (SqL.of s) (VRs.dp o r)
  | .fz l, x, o, q => by
    simp only [VR] at q
    obtain ⟨a, xs, rfl, s, r⟩ := q
    exact .lst s.sq (VRs.dp o r)
  | .ref i, x, o, q => by cases o
theorem VRs.dp : ∀ {l : List Val} {xs : List V}, okVs l = true → VRs K g H l xs → DpAll K H xs (pds l)
  | [], xs, _, q => by simp only [VRs] at q; subst q; exact .nil
  | v :: l, xs, o, q => by
    simp only [VRs] at q
    obtain ⟨x, r, rfl, q1, q2⟩ := q
    have o : okV v = true ∧ okVs l = true := by simpa [okVs] using o
    exact .cons (VR.dp o.1 q1) (VRs.dp o.2 q2)
end
end
def veq (a b : Val) : Bool := PyData.eqv (pd a) (pd b)
/-- a list of ours, read -/
def thaw (h : Hv) (v : Val) : Val := match v with
  | .ref i => match h[i]? with
    | some (.lst l) => .lst l
    | _ => v
  | v => v
theorem thaw_dp {K : PySem.W.Frag} {g : Gh} {H : Hp} {h : Hv} {v : Val} {x : V} (R : HR K g H h) (r : VR K g H v x) (o : okV (thaw h v) = true) : Dp K H x (pd (thaw h v)) := by
  cases v with
  | ref i =>
    simp only [thaw] at o ⊢
    split at o
    · rename_i l hl
      simp only [VR] at r
      obtain ⟨a, rfl, hm⟩ := r
      obtain ⟨xs, e1, e2⟩ := ref_at R hl hm
      exact .lst (SqL.of e1) (VRs.dp o e2)
    · cases o
  | _ => exact VR.dp o r
def eqOk (a b : Val) : Bool := okV a && okV b && decide (min (dpV a) (dpV b) ≤ 190)
def vEq (v u : Val) (h : Hv) : Res Val := match v, u with
  | .int i, .int j => .ok (.bl (decide (i = j))) h
  | .str a, .str b => .ok (.bl (decide (a = b))) h
  | v, u => if eqOk (thaw h v) (thaw h u) then .ok (.bl (veq (thaw h v) (thaw h u))) h else .fail
def vNe (v u : Val) (h : Hv) : Res Val := match v, u with
  | .int i, .int j => .ok (.bl (!decide (i = j))) h
  | .str a, .str b => .ok (.bl (!decide (a = b))) h
  | v, u => if eqOk (thaw h v) (thaw h u) then .ok (.bl (!veq (thaw h v) (thaw h u))) h else .fail
section
variable {X : Cx}
def rEqG (K : PySem.W.Frag) (neg : Bool) : R2 := fun x y H Q => ∃ d e, Dp K H x d ∧ Dp K H y e ∧ d.canLay0 = true ∧ e.canLay0 = true ∧ min d.depth e.depth ≤ 190 ∧ Q (.bl (if neg then !PyData.eqv d e else PyData.eqv d e)) H
theorem op_eqG (hu : X.A.units + 200 < cLine) : OpR X (compareOp .Eq) (rEqG X.K false) := by
  intro pins s σ H x y v u Q I rx ry h
  obtain ⟨d, e, hd, he, sd, se, hm, q⟩ := h
  obtain ⟨as, r1⟩ := Dp.reads I d x v hd rx
  obtain ⟨bs, r2⟩ := Dp.reads I e y u he ry
  exact SeqAt.compareEq_reads r1 r2 sd se (by omega) ⟨.bl _, H, I, rfl, q⟩
theorem op_neG (hu : X.A.units + 200 < cLine) : OpR X (compareOp .NotEq) (rEqG X.K true) := by
  intro pins s σ H x y v u Q I rx ry h
  obtain ⟨d, e, hd, he, sd, se, hm, q⟩ := h
  obtain ⟨as, r1⟩ := Dp.reads I d x v hd rx
  obtain ⟨bs, r2⟩ := Dp.reads I e y u he ry
  exact SeqAt.compareNe_reads r1 r2 sd se (by omega) ⟨.bl _, H, I, rfl, q⟩
theorem eqG_ok {W : WX} {g : Gh} {H : Hp} {h : Hv} {σ : L2.St} {v u : Val} {x y : V} {Q : VK} {neg : Bool} (R : HR X.K g H h) (rv : VR X.K g H v x) (ru : VR X.K g H u y)
    (A : After X.K W (vr X.K) σ g H Q (if eqOk (thaw h v) (thaw h u) then .ok (.bl (if neg then !veq (thaw h v) (thaw h u) else veq (thaw h v) (thaw h u))) h else .fail)) : rEqG X.K neg x y H Q := by
  split at A
  · rename_i o
    simp only [eqOk, Bool.and_eq_true, decide_eq_true_eq] at o
    exact ⟨_, _, thaw_dp R rv o.1.1, thaw_dp R ru o.1.2, pd_lay _ o.1.1, pd_lay _ o.1.2, by rw [pd_depth, pd_depth]; exact o.2, A g H _ Ext.refl R (by simp only [VR]; rfl)⟩
  · exact A.elim
theorem og_eq (hu : X.A.units + 200 < cLine) : OpG X (compareOp .Eq) vEq := by
  refine ⟨_, op_eq.or (op_eqG hu), fun W g H h σ v u x y Q R rv ru A => ?_⟩
  unfold vEq at A
  split at A
  · simp only [VR] at rv ru
    subst rv ru
    refine .inl ⟨rfl, ?_⟩
    rename_i i j
    have e : decide (V.int i = V.int j) = decide (i = j) := by by_cases q : i = j <;> simp [q]
    rw [e]
    exact A g H _ Ext.refl R (by simp only [VR])
  · simp only [VR] at rv ru
    subst rv ru
    refine .inl ⟨rfl, ?_⟩
    rename_i i j
    have e : decide (V.str (sOf i) = V.str (sOf j)) = decide (i = j) := by
      by_cases q : i = j
      · simp [q]
      · have : ¬ V.str (sOf i) = V.str (sOf j) := fun z => q (sOf_inj (V.str.inj z))
        simp [q, this]
    rw [e]
    exact A g H _ Ext.refl R (by simp only [VR])
  · exact .inr (eqG_ok (neg := false) R rv ru A)
theorem og_ne (hu : X.A.units + 200 < cLine) : OpG X (compareOp .NotEq) vNe := by
  refine ⟨_, op_ne.or (op_neG hu), fun W g H h σ v u x y Q R rv ru A => ?_⟩
  unfold vNe at A
  split at A
  · simp only [VR] at rv ru
    subst rv ru
    refine .inl ⟨rfl, ?_⟩
    rename_i i j
    have e : decide (V.int i = V.int j) = decide (i = j) := by by_cases q : i = j <;> simp [q]
    rw [e]
    exact A g H _ Ext.refl R (by simp only [VR])
  · simp only [VR] at rv ru
    subst rv ru
    refine .inl ⟨rfl, ?_⟩
    rename_i i j
    have e : decide (V.str (sOf i) = V.str (sOf j)) = decide (i = j) := by
      by_cases q : i = j
      · simp [q]
      · have : ¬ V.str (sOf i) = V.str (sOf j) := fun z => q (sOf_inj (V.str.inj z))
        simp [q, this]
    rw [e]
    exact A g H _ Ext.refl R (by simp only [VR])
  · exact .inr (eqG_ok (neg := true) R rv ru A)

/-! ### in -/
def inSeq (x : Val) (l : List Val) : Bool := l.any fun z => veq z x
def inOk (x : Val) (l : List Val) : Bool := okV x && okVs l && decide (min (dpVs l) (dpV x) ≤ 190)
/-- x in c -/
def isIn (x c : Val) (h : Hv) : Res Bool := match c with
  | .str s => match x with
    | .str [a] => .ok (s.contains a) h
    | _ => .fail
  | c => match seqOf h c with
    | some l => if inOk (thaw h x) l then .ok (inSeq (thaw h x) l) h else .fail
    | none => match dicOf h c, keyOf x with
      | some l, some _ => .ok (dGet l x).isSome h
      | _, _ => .fail
def vIn (x c : Val) (h : Hv) : Res Val := (isIn x c h).bind fun b h1 => .ok (.bl b) h1
def vNotIn (x c : Val) (h : Hv) : Res Val := (isIn x c h).bind fun b h1 => .ok (.bl (!b)) h1
def rInG (K : PySem.W.Frag) (neg : Bool) : R2 := fun x y H Q => ∃ d ds, Dp K H x d ∧ (Dp K H y (.list ds) ∨ Dp K H y (.tuple ds)) ∧ d.canLay0 = true ∧ PyData.canLayAll0 ds = true ∧ min (PyData.depthAll ds) d.depth ≤ 190 ∧
  Q (.bl (if neg then !(ds.any fun z => PyData.eqv z d) else ds.any fun z => PyData.eqv z d)) H
theorem op_inG (hu : X.A.units + 200 < cLine) : OpR X (compareOp .In) (rInG X.K false) := by
  intro pins s σ H x y v u Q I rx ry h
  obtain ⟨d, ds, hd, he | he, sd, se, hm, q⟩ := h
  · obtain ⟨as, r1⟩ := Dp.reads I d x v hd rx
    obtain ⟨bs, r2⟩ := Dp.reads I (.list ds) y u he ry
    exact SeqAt.in_list_reads r2 r1 se sd (by omega) ⟨.bl _, H, I, rfl, q⟩
  · obtain ⟨as, r1⟩ := Dp.reads I d x v hd rx
    obtain ⟨bs, r2⟩ := Dp.reads I (.tuple ds) y u he ry
    exact SeqAt.in_tuple_reads r2 r1 se sd (by omega) ⟨.bl _, H, I, rfl, q⟩
theorem op_notInG (hu : X.A.units + 200 < cLine) : OpR X (compareOp .NotIn) (rInG X.K true) := by
  intro pins s σ H x y v u Q I rx ry h
  obtain ⟨d, ds, hd, he | he, sd, se, hm, q⟩ := h
  · obtain ⟨as, r1⟩ := Dp.reads I d x v hd rx
    obtain ⟨bs, r2⟩ := Dp.reads I (.list ds) y u he ry
    exact SeqAt.notIn_list_reads r2 r1 se sd (by omega) ⟨.bl _, H, I, rfl, q⟩
  · obtain ⟨as, r1⟩ := Dp.reads I d x v hd rx
    obtain ⟨bs, r2⟩ := Dp.reads I (.tuple ds) y u he ry
    exact SeqAt.notIn_tuple_reads r2 r1 se sd (by omega) ⟨.bl _, H, I, rfl, q⟩
def rInS (neg : Bool) : R2 := fun x y H Q => ∃ (c : Nat) (z : Str), x = .str ⟨#[c]⟩ ∧ y = .str z ∧ Q (.bl (if neg then !decide (c ∈ z.cps.toList) else decide (c ∈ z.cps.toList))) H
def rInDc (neg : Bool) : R2 := fun x y H Q => ∃ a o, y = .ref a ∧ DGet H a x o ∧ Q (.bl (if neg then !o.isSome else o.isSome)) H
theorem op_inD' (hu : X.A.units + 200 < cLine) : OpR X (compareOp .In) (rInDc false) := by
  intro pins s σ H x y v u Q I rx ry h
  obtain ⟨a, o, rfl, g, q⟩ := h
  obtain rfl : u = Value.ref a := ry
  exact d_in (by omega) I g rx fun s' I' => ⟨.bl _, H, I', rfl, q⟩
theorem op_notInD' (hu : X.A.units + 200 < cLine) : OpR X (compareOp .NotIn) (rInDc true) := by
  intro pins s σ H x y v u Q I rx ry h
  obtain ⟨a, o, rfl, g, q⟩ := h
  obtain rfl : u = Value.ref a := ry
  exact d_notIn (by omega) I g rx fun s' I' => ⟨.bl _, H, I', rfl, q⟩
theorem any_pds (x : Val) : ∀ l : List Val, ((pds l).any fun z => PyData.eqv z (pd x)) = inSeq x l
  | [] => rfl
  | v :: l => by simp only [pds, List.any_cons, inSeq, veq, any_pds x l]
theorem seqOf_dp {K : PySem.W.Frag} {g : Gh} {H : Hp} {h : Hv} {v : Val} {x : V} {l : List Val} (R : HR K g H h) (r : VR K g H v x) (e : seqOf h v = some l) (o : okVs l = true) : Dp K H x (.list (pds l)) ∨ Dp K H x (.tuple (pds l)) := by
  obtain ⟨a, xs, rfl, s, rs⟩ := seqOf_ok R r e
  rcases s with s | s
  · exact .inl (.lst s (VRs.dp o rs))
  · exact .inr (.tup s (VRs.dp o rs))
theorem isIn_ok {W : WX} {g : Gh} {H : Hp} {h : Hv} {σ : L2.St} {v u : Val} {x y : V} {Q : VK} (neg : Bool) (R : HR X.K g H h) (rv : VR X.K g H v x) (ru : VR X.K g H u y)
    (A : After X.K W (vr X.K) σ g H Q ((isIn v u h).bind fun b h1 => .ok (.bl (if neg then !b else b)) h1)) : rInS neg x y H Q ∨ rInG X.K neg x y H Q ∨ rInDc neg x y H Q := by
  unfold isIn at A
  split at A
  · rename_i s
    split at A
    · rename_i a
      simp only [VR] at rv ru
      subst rv ru
      refine .inl ⟨a, _, rfl, rfl, ?_⟩
      have e : decide (a ∈ (sOf s).cps.toList) = s.contains a := by rw [Bool.eq_iff_iff]; exact ⟨fun z => by simpa [sOf] using of_decide_eq_true z, fun z => decide_eq_true (by simpa [sOf] using z)⟩
      rw [e]
      exact A g H _ Ext.refl R (by simp only [VR])
    · exact A.elim
  · split at A
    · rename_i l hl
      split at A
      · rename_i o
        simp only [inOk, Bool.and_eq_true, decide_eq_true_eq] at o
        refine .inr (.inl ⟨pd (thaw h v), pds l, thaw_dp R rv o.1.1, seqOf_dp R ru hl o.1.2, pd_lay _ o.1.1, pds_lay _ o.1.2, by rw [pds_depth, pd_depth]; exact o.2, ?_⟩)
        rw [any_pds]
        exact A g H _ Ext.refl R (by simp only [VR])
      · exact A.elim
    · split at A
      · rename_i l k hl hk
        obtain ⟨i, a, ks, rfl, rfl, hm, hi, ha, d⟩ := dicOf_ok R ru hl
        obtain ⟨d1, d2⟩ := DR.get hk d
        have A : After X.K W (vr X.K) σ g H Q (.ok (.bl (if neg then !(dGet l v).isSome else (dGet l v).isSome)) h) := A
        rw [key_V rv hk]
        have hs : (valV ks k).isSome = (dGet l v).isSome := by
          cases e : dGet l v with
          | none => rw [d2 e]; rfl
          | some w => obtain ⟨z, e1, _⟩ := d1 w e; rw [e1]; rfl
        refine .inr (.inr ⟨a, _, rfl, DGet.k ha, ?_⟩)
        rw [hs]
        exact A g H _ Ext.refl R (by simp only [VR])
      · exact A.elim
theorem og_in (hu : X.A.units + 200 < cLine) : OpG X (compareOp .In) vIn :=
  ⟨_, (show OpR X (compareOp .In) (rInS false) from op_in_sign).or ((op_inG hu).or (op_inD' hu)), fun W g H h σ v u x y Q R rv ru A => isIn_ok false R rv ru A⟩
theorem og_notIn (hu : X.A.units + 200 < cLine) : OpG X (compareOp .NotIn) vNotIn :=
  ⟨_, (show OpR X (compareOp .NotIn) (rInS true) from op_notIn_sign).or ((op_notInG hu).or (op_notInD' hu)), fun W g H h σ v u x y Q R rv ru A => isIn_ok true R rv ru A⟩
end

/-! ### isinstance -/
inductive Ty where
  | non | bool | int | str | tuple | list | dict
  deriving DecidableEq
def Ty.name : Ty → String
  | .non => "NoneType" | .bool => "bool" | .int => "int" | .str => "str" | .tuple => "tuple" | .list => "list" | .dict => "dict"
def tyOf (h : Hv) : Val → Option Ty
  | .non => some .non
  | .bl _ => some .bool
  | .int _ => some .int
  | .str _ => some .str
  | .tup _ => some .tuple
  | .lst _ => some .list
  | .fz _ => some .list
  | .ref i => match h[i]? with
    | some (.lst _) => some .list
    | some (.dic _) => some .dict
    | _ => none
def isiB (a b : Ty) : Bool := decide (a = b) || (decide (a = .bool) && decide (b = .int))
theorem kitB_ok : ∀ a b : Ty, b ≠ .non → kitB a.name b.name = some (isiB a b) := by
  intro a b hb
  cases a <;> cases b <;> first | exact absurd rfl hb | decide +kernel
theorem tyOf_ok {K : PySem.W.Frag} {g : Gh} {H : Hp} {h : Hv} {v : Val} {x : V} {t : Ty} (R : HR K g H h) (r : VR K g H v x) (e : tyOf h v = some t) : TyX K H x (.type t.name) := by
  cases v with
  | non => simp only [tyOf, Option.some.injEq] at e; subst e; simp only [VR] at r; subst r; exact .base .non
  | bl b => simp only [tyOf, Option.some.injEq] at e; subst e; simp only [VR] at r; subst r; exact .base (.bl b)
  | int b => simp only [tyOf, Option.some.injEq] at e; subst e; simp only [VR] at r; subst r; exact .base (.int b)
  | str b => simp only [tyOf, Option.some.injEq] at e; subst e; simp only [VR] at r; subst r; exact .base (.str _)
  | tup l =>
    simp only [tyOf, Option.some.injEq] at e
    subst e
    simp only [VR] at r
    obtain ⟨a, xs, rfl, s, _⟩ := r
    rcases s with (s | ⟨o, s⟩) | ⟨o, its, n, hk, hc, _⟩
    · exact .base (.tup s)
    · exact .fTuple s
    · exact .kTuple hk hc
  | lst l =>
    simp only [tyOf, Option.some.injEq] at e
    subst e
    simp only [VR] at r
    obtain ⟨a, xs, rfl, _, s, _⟩ := r
    exact .base (.lst s)
  | fz l =>
    simp only [tyOf, Option.some.injEq] at e
    subst e
    simp only [VR] at r
    obtain ⟨a, xs, rfl, s, _⟩ := r
    rcases s with ⟨o, s⟩ | ⟨o, its, n, hk, hc, _⟩
    · exact .base (.frz s)
    · exact .kList hk hc
  | ref i =>
    simp only [VR] at r
    obtain ⟨a, rfl, hm⟩ := r
    simp only [tyOf] at e
    split at e
    · rename_i l hl
      cases e
      obtain ⟨xs, e1, _⟩ := ref_at R hl hm
      exact .base (.lst e1)
    · rename_i l hl
      cases e
      obtain ⟨xs, e1, _⟩ := ref_at R hl hm
      exact .base (.dK e1)
    · cases e
def dIsi (t : Ty) (d : Den) : Den := fun l h => (d l h).bind fun v h1 => match tyOf h1 v with
  | some a => .ok (.bl (isiB a t)) h1
  | none => .fail
section
variable {X : Cx} {W : WX}
/-- isinstance(e, T), T a built-in type by its name -/
theorem ge_isi (t : Ty) {e : Expr} {d : Den} {x y : Str} {p q pos : Pos} (he : GE X W e d) (hm : X.mg x = none) (hmt : X.mg y = none) (ht : t ≠ .non := by decide) (hg : Gl X x := by rfl) (hgt : Gl X y := by rfl) (hv : bootBuiltins x = some (.builtin "isinstance") := by decide +kernel) (hvt : bootBuiltins y = some (.type t.name) := by decide +kernel)
    (hn : x ≠ "__name__" := by decide +kernel) (hdb : (x == ("__debug__" : Str)) = false := by decide +kernel) (hnt : y ≠ "__name__" := by decide +kernel) (hdbt : (y == ("__debug__" : Str)) = false := by decide +kernel)
    (hs : starEach [e, .Name y q] X.env = (false, eval e X.env) :: starEach [.Name y q] X.env := by rfl) (hs2 : starEach [.Name y q] X.env = (false, eval (.Name y q) X.env) :: starEach [] X.env := by rfl) (hpl : (backTo pos (starEach [.Name y q] X.env)).any (·.1) = false := by rfl) :
    GE X W (.Call (.Name x p) [e, .Name y q] [] pos) (dIsi t d) := by
  have hy : PE X (.Name y q) (tC (.ty t.name)) := pe_bltn hgt hmt hvt rfl hnt hdbt
  refine PE.imp (pe_callB call_isi hg hm hv (pa_cons he (pa_cons hy pa_nil hs2) hs) hn hdb hs hpl) fun σ H Q ⟨g, l, h, S, R, A⟩ => ?_
  refine tG_of S R A fun v h1 g1 H1 x E S1 R1 r1 A1 => ?_
  show rIsi X.K [x, .ty t.name] H1 Q
  cases et : tyOf h1 v with
  | none => rw [et] at A1; exact A1.elim
  | some a =>
    rw [et] at A1
    exact ⟨x, _, _, _, isiB a t, rfl, .ty _, tyOf_ok R1 r1 et, kit_ty (kitB_ok a t ht), A1 g1 H1 _ Ext.refl R1 (by simp only [VR])⟩

/-! ### slices -/
def cut {α : Type} (l : List α) (lo hi : Option Int) : List α := (l.drop (HT.sIx l.length 0 lo)).take (HT.sIx l.length l.length hi - HT.sIx l.length 0 lo)
abbrev DO := Loc → Hv → Res (Option Int)
def oNone : DO := fun _ h => .ok none h
def oSome (d : Den) : DO := fun l h => (d l h).bind fun v h1 => match v with
  | .int i => .ok (some i) h1
  | _ => .fail
abbrev orl : Gh → Hp → Option Int → Option Int → Prop := fun _ _ a b => a = b
def GO (X : Cx) (W : WX) (e : Option Expr) (d : DO) : Prop := PO X e (tG X.K W orl d)
theorem PO.imp {e : Option Expr} {t t' : TO} (p : PO X e t) (h : ∀ σ H Q, t' σ H Q → t σ H Q) : PO X e t' := ⟨fun pins s σ H Q I q => p.run pins s σ H Q I (h σ H Q q)⟩
theorem go_none : GO X W none oNone := PO.imp po_none fun σ H Q ⟨g, l, h, S, R, A⟩ => A g H none Ext.refl R rfl
theorem go_some {e : Expr} {d : Den} (he : GE X W e d) : GO X W (some e) (oSome d) := by
  refine PO.imp (po_some he) fun σ H Q ⟨g, l, h, S, R, A⟩ => ?_
  refine tG_of S R A fun v h1 g1 H1 x E S1 R1 r1 A1 => ?_
  cases v with
  | int i =>
    simp only [VR] at r1
    exact ⟨i, r1, A1 g1 H1 _ Ext.refl R1 rfl⟩
  | _ => exact A1.elim
def vCut (v : Val) (lo hi : Option Int) (h : Hv) : Res Val := match v with
  | .tup l => .ok (.tup (cut l lo hi)) h
  | .str s => if s.length ≤ lineN then .ok (.str (cut s lo hi)) h else .fail
  | v => match lstOf h v with
    | some l => .ok (.lst (cut l lo hi)) h
    | none => .fail
def dCut (d : Den) (lo hi : DO) : Den := fun l h => (d l h).bind fun v h1 => (lo l h1).bind fun a h2 => (hi l h2).bind fun b h3 => vCut v a b h3
theorem VRs.cut' {K : PySem.W.Frag} {g : Gh} {H : Hp} {l : List Val} {xs : List V} (r : VRs K g H l xs) (lo hi : Option Int) : VRs K g H (GH.cut l lo hi) (cutV xs lo hi) := by
  unfold GH.cut cutV
  rw [← r.length]
  exact (r.drop _).take _
theorem cut_all {α : Type} (l : List α) {lo hi : Option Int} (h : HT.sIx l.length 0 lo = 0 ∧ HT.sIx l.length l.length hi = l.length) : cut l lo hi = l := by
  unfold cut
  rw [h.1, h.2]
  simp
end
end GH
set_option Elab.async false
set_option linter.all false
set_option maxRecDepth 100000
set_option maxHeartbeats 1000000
set_option autoImplicit false
/-! Slices, built-in functions of one argument, methods of lists and dicts, stores. -/
namespace GH
open PySem PySem.Spec PyProof.Rows L2

section
variable {X : Cx} {W : WX}
theorem cutS_eq (s : List Nat) (lo hi : Option Int) : cutS (sOf s) lo hi = sOf (cut s lo hi) := by
  unfold cutS cut sOf
  simp [Str.length]
theorem ge_cut {e : Expr} {d : Den} {lo hi : Option Expr} {dl dh : DO} {pos p2 : Pos} (he : GE X W e d) (hl : GO X W lo dl) (hh : GO X W hi dh) : GE X W (.Subscript e (.Slice lo hi none p2) pos) (dCut d dl dh) := by
  refine PE.imp (pe_slice (sl_list.or (sl_tupA.or sl_str)) he hl hh) fun σ H Q ⟨g, l, h, S, R, A⟩ => ?_
  refine tG_of S R A fun v h1 g1 H1 x E S1 R1 r1 A1 => ?_
  refine tG_of S1 R1 A1 fun a h2 g2 H2 a' E2 S2 R2 e2 A2 => ?_
  refine tG_of S2 R2 A2 fun b h3 g3 H3 b' E3 S3 R3 e3 A3 => ?_
  obtain rfl : a = a' := e2
  obtain rfl : b = b' := e3
  have r := (r1.ext R1 E2).ext R2 E3
  unfold vCut at A3
  split at A3
  · rename_i k
    simp only [VR] at r
    obtain ⟨p, xs, rfl, s, rs⟩ := r
    refine .inr (.inl ⟨p, xs, rfl, s, fun hw => ?_, fun _ q nq => ?_⟩)
    · refine A3 g3 H3 _ Ext.refl R3 ?_
      rw [cut_all k (by rw [rs.length]; exact hw)]
      simp only [VR]
      exact ⟨p, xs, rfl, s, rs⟩
    · obtain ⟨E4, R4⟩ := R3.grow (o := .tup (cutV xs a b)) nq
      refine A3 g3 _ (.ref q) E4 R4 ?_
      simp only [VR]
      exact ⟨q, _, rfl, SqT.of upd_same, (rs.cut' a b).ext R3 E4⟩
  · rename_i k
    split at A3
    · rename_i hl
      simp only [VR] at r
      subst r
      refine .inr (.inr ⟨_, rfl, by rw [sOf_len]; exact line_ok hl, ?_⟩)
      rw [cutS_eq]
      exact A3 g3 H3 _ Ext.refl R3 (by simp only [VR])
    · exact A3.elim
  · split at A3
    · rename_i k hk
      obtain ⟨p, xs, rfl, s, rs⟩ := lstOf_ok R3 r hk
      refine .inl ⟨p, xs, rfl, SqL.of s, fun q nq => ?_⟩
      obtain ⟨E4, R4⟩ := R3.grow (o := .lst (cutV xs a b)) nq
      refine A3 g3 _ (.ref q) E4 R4 ?_
      simp only [VR]
      exact ⟨q, _, rfl, R3.fresh nq, upd_same, (rs.cut' a b).ext R3 E4⟩
    · exact A3.elim
/-- a list reversed: xs[::-1] -/
def vRev (v : Val) (h : Hv) : Res Val := match lstOf h v with
  | some l => .ok (.lst l.reverse) h
  | none => .fail
def dFn (f : Val → Hv → Res Val) (d : Den) : Den := fun l h => (d l h).bind f
theorem ge_rev {e : Expr} {d : Den} {k : Nat} {p1 p2 p3 pos : Pos} (he : GE X W e d) : GE X W (.Subscript e (.Slice none none (some (.UnaryOp .USub (.Constant (.int 1) k p1) p2)) p3) pos) (dFn vRev d) := by
  refine PE.imp (pe_revL he) fun σ H Q ⟨g, l, h, S, R, A⟩ => ?_
  refine tG_of S R A fun v h1 g1 H1 x E S1 R1 r1 A1 => ?_
  unfold vRev at A1
  split at A1
  · rename_i k hk
    obtain ⟨p, xs, rfl, s, rs⟩ := lstOf_ok R1 r1 hk
    refine ⟨p, xs, rfl, SqL.of s, fun q nq => ?_⟩
    obtain ⟨E4, R4⟩ := R1.grow (o := .lst xs.reverse) nq
    refine A1 g1 _ (.ref q) E4 R4 ?_
    simp only [VR]
    exact ⟨q, _, rfl, R1.fresh nq, upd_same, rs.reverse.ext R1 E4⟩
  · exact A1.elim

/-! ### f(e) -/
def C1 (X : Cx) (f : Value) (d : Val → Hv → Res Val) : Prop := ∃ r, CallR X f r ∧ ∀ (W : WX) (g : Gh) (H : Hp) (h : Hv) (σ : L2.St) (v : Val) (x : V) (Q : VK), HR X.K g H h → VR X.K g H v x → After X.K W (vr X.K) σ g H Q (d v h) → r [x] H Q
theorem ge_b1 {id : String} {f : Val → Hv → Res Val} {e : Expr} {d : Den} {x : Str} {p pos : Pos} (hf : C1 X (.builtin id) f) (he : GE X W e d) (hm : X.mg x = none) (hg : Gl X x := by rfl) (hv : bootBuiltins x = some (.builtin id) := by decide +kernel) (hn : x ≠ "__name__" := by decide +kernel) (hdb : (x == ("__debug__" : Str)) = false := by decide +kernel)
    (hst : starEach [e] X.env = (false, eval e X.env) :: starEach [] X.env := by rfl) (hpl : (backTo pos (starEach [] X.env)).any (·.1) = false := by rfl) : GE X W (.Call (.Name x p) [e] [] pos) (dFn f d) := by
  obtain ⟨r, hc, hr⟩ := hf
  refine PE.imp (pe_callB hc hg hm hv (pa_cons he pa_nil hst) hn hdb hst hpl) fun σ H Q ⟨g, l, h, S, R, A⟩ => ?_
  exact tG_of S R A fun v h1 g1 H1 x E S1 R1 r1 A1 => hr W g1 H1 h1 σ v x Q R1 r1 A1
theorem ge_t1 {T : String} {f : Val → Hv → Res Val} {e : Expr} {d : Den} {x : Str} {p pos : Pos} (hf : C1 X (.type T) f) (he : GE X W e d) (hm : X.mg x = none) (hg : Gl X x := by rfl) (hv : bootBuiltins x = some (.type T) := by decide +kernel) (hn : x ≠ "__name__" := by decide +kernel) (hdb : (x == ("__debug__" : Str)) = false := by decide +kernel)
    (hst : starEach [e] X.env = (false, eval e X.env) :: starEach [] X.env := by rfl) (hpl : (backTo pos (starEach [] X.env)).any (·.1) = false := by rfl) : GE X W (.Call (.Name x p) [e] [] pos) (dFn f d) := by
  obtain ⟨r, hc, hr⟩ := hf
  refine PE.imp (pe_callTy hc hg hm hv (pa_cons he pa_nil hst) hn hdb hst hpl) fun σ H Q ⟨g, l, h, S, R, A⟩ => ?_
  exact tG_of S R A fun v h1 g1 H1 x E S1 R1 r1 A1 => hr W g1 H1 h1 σ v x Q R1 r1 A1
def vAbs (v : Val) (h : Hv) : Res Val := match v with
  | .int i => .ok (.int (if i < 0 then -i else i)) h
  | _ => .fail
theorem c1_abs : C1 X (.builtin "abs") vAbs := ⟨_, call_abs, fun W g H h σ v x Q R r A => by
  unfold vAbs at A
  split at A
  · simp only [VR] at r
    subst r
    exact ⟨_, rfl, A g H _ Ext.refl R (by simp only [VR])⟩
  · exact A.elim⟩
def vInt (v : Val) (h : Hv) : Res Val := match v with
  | .int i => .ok (.int i) h
  | .bl b => .ok (.int (if b then 1 else 0)) h
  | _ => .fail
theorem c1_int : C1 X (.type "int") vInt := ⟨_, call_int1, fun W g H h σ v x Q R r A => by
  unfold vInt at A
  split at A
  · simp only [VR] at r
    subst r
    exact .inl ⟨_, rfl, A g H _ Ext.refl R (by simp only [VR])⟩
  · simp only [VR] at r
    subst r
    exact .inr ⟨_, rfl, A g H _ Ext.refl R (by simp only [VR])⟩
  · exact A.elim⟩
def intsOf : List Val → Option (List Int)
  | [] => some []
  | .int i :: l => (intsOf l).map (i :: ·)
  | _ :: _ => none
def blsOf : List Val → Option (List Bool)
  | [] => some []
  | .bl i :: l => (blsOf l).map (i :: ·)
  | _ :: _ => none
theorem intsOf_ok {K : PySem.W.Frag} {g : Gh} {H : Hp} : ∀ {l : List Val} {ns : List Int} {xs : List V}, intsOf l = some ns → VRs K g H l xs → xs = ns.map V.int
  | [], ns, xs, e, r => by simp only [intsOf, Option.some.injEq] at e; subst e; simp only [VRs] at r; exact r
  | .int i :: l, ns, xs, e, r => by
    simp only [intsOf, Option.map_eq_some_iff] at e
    obtain ⟨ms, e, rfl⟩ := e
    simp only [VRs, VR] at r
    obtain ⟨x, xs', rfl, rfl, r⟩ := r
    rw [intsOf_ok e r]; rfl
theorem blsOf_ok {K : PySem.W.Frag} {g : Gh} {H : Hp} : ∀ {l : List Val} {ns : List Bool} {xs : List V}, blsOf l = some ns → VRs K g H l xs → xs = ns.map V.bl
  | [], ns, xs, e, r => by simp only [blsOf, Option.some.injEq] at e; subst e; simp only [VRs] at r; exact r
  | .bl i :: l, ns, xs, e, r => by
    simp only [blsOf, Option.map_eq_some_iff] at e
    obtain ⟨ms, e, rfl⟩ := e
    simp only [VRs, VR] at r
    obtain ⟨x, xs', rfl, rfl, r⟩ := r
    rw [blsOf_ok e r]; rfl
def vSum (v : Val) (h : Hv) : Res Val := match lstOf h v with
  | some l => match intsOf l with
    | some ns => .ok (.int ns.sum) h
    | none => .fail
  | none => .fail
theorem c1_sum (hc : X.calm = true) : C1 X (.builtin "sum") vSum := ⟨_, cr_sum hc, fun W g H h σ v x Q R r A => by
  unfold vSum at A
  split at A
  · rename_i l hl
    split at A
    · rename_i ns hn
      obtain ⟨a, xs, rfl, s, rs⟩ := lstOf_ok R r hl
      have e := intsOf_ok hn rs
      subst e
      exact ⟨a, ns, rfl, SqL.of s, A g H _ Ext.refl R (by simp only [VR])⟩
    · exact A.elim
  · exact A.elim⟩
def vAll (v : Val) (h : Hv) : Res Val := match lstOf h v with
  | some l => match blsOf l with
    | some ns => .ok (.bl (ns.all id)) h
    | none => .fail
  | none => .fail
def vAny (v : Val) (h : Hv) : Res Val := match lstOf h v with
  | some l => match blsOf l with
    | some ns => .ok (.bl (ns.any id)) h
    | none => .fail
  | none => .fail
theorem c1_all (hc : X.calm = true) : C1 X (.builtin "all") vAll := ⟨_, cr_all hc, fun W g H h σ v x Q R r A => by
  unfold vAll at A
  split at A
  · rename_i l hl
    split at A
    · rename_i ns hn
      obtain ⟨a, xs, rfl, s, rs⟩ := lstOf_ok R r hl
      have e := blsOf_ok hn rs
      subst e
      exact ⟨a, ns, rfl, SqL.of s, A g H _ Ext.refl R (by simp only [VR])⟩
    · exact A.elim
  · exact A.elim⟩
theorem c1_any (hc : X.calm = true) : C1 X (.builtin "any") vAny := ⟨_, cr_any hc, fun W g H h σ v x Q R r A => by
  unfold vAny at A
  split at A
  · rename_i l hl
    split at A
    · rename_i ns hn
      obtain ⟨a, xs, rfl, s, rs⟩ := lstOf_ok R r hl
      have e := blsOf_ok hn rs
      subst e
      exact ⟨a, ns, rfl, SqL.of s, A g H _ Ext.refl R (by simp only [VR])⟩
    · exact A.elim
  · exact A.elim⟩
def vTuple (v : Val) (h : Hv) : Res Val := match seqOf h v with
  | some l => .ok (.tup l) h
  | none => .fail
theorem c1_tuple : C1 X (.type "tuple") vTuple := ⟨_, call_tuple_of, fun W g H h σ v x Q R r A => by
  unfold vTuple at A
  split at A
  · rename_i l hl
    obtain ⟨a, xs, rfl, s, rs⟩ := seqOf_ok R r hl
    rcases s with s | s
    · refine ⟨a, xs, rfl, .inl ⟨s, fun q nq => ?_⟩⟩
      obtain ⟨E4, R4⟩ := R.grow (o := .tup xs) nq
      refine A g _ (.ref q) E4 R4 ?_
      simp only [VR]
      exact ⟨q, _, rfl, SqT.of upd_same, rs.ext R E4⟩
    · refine ⟨a, xs, rfl, .inr ⟨s, A g H _ Ext.refl R ?_⟩⟩
      simp only [VR]
      exact ⟨a, xs, rfl, s, rs⟩
  · exact A.elim⟩
def vList (v : Val) (h : Hv) : Res Val := match seqOf h v with
  | some l => .ok (.lst l) h
  | none => .fail
theorem c1_list : C1 X (.type "list") vList := ⟨_, call_list_of, fun W g H h σ v x Q R r A => by
  unfold vList at A
  split at A
  · rename_i l hl
    obtain ⟨a, xs, rfl, s, rs⟩ := seqOf_ok R r hl
    refine ⟨a, xs, rfl, s, fun q nq => ?_⟩
    obtain ⟨E4, R4⟩ := R.grow (o := .lst xs) nq
    refine A g _ (.ref q) E4 R4 ?_
    simp only [VR]
    exact ⟨q, _, rfl, R.fresh nq, upd_same, rs.ext R E4⟩
  · exact A.elim⟩
/-- .. that is written later on -/
def vListM (v : Val) (h : Hv) : Res Val := match seqOf h v with
  | some l => .ok (.ref h.length) (h ++ [.lst l])
  | none => .fail
theorem push_ok {W : WX} {σ : L2.St} {g : Gh} {H : Hp} {h : Hv} {Q : VK} {ob : Ob} {o : HO} (R : HR X.K g H h) (A : After X.K W (vr X.K) σ g H Q (.ok (.ref h.length) (h ++ [ob]))) {q : Addr} (nq : H q = none)
    (ok : ∀ E : Ext g H ⟨g.m ++ [q], g.r⟩ (upd H q o), OR X.K ⟨g.m ++ [q], g.r⟩ (upd H q o) q ob) : Q (.ref q) (upd H q o) := by
  have E : Ext g H ⟨g.m ++ [q], g.r⟩ (upd H q o) := ⟨⟨[q], rfl, fun b hb => by rw [List.mem_singleton.mp hb]; exact nq⟩, rfl, fun b u e hb => by rw [upd_ne (ne_of_none e nq)]; exact e, fun b u e => ⟨u, by rw [upd_ne (ne_of_none e nq)]; exact e⟩⟩
  obtain ⟨_, R1⟩ := R.push (o := o) (ob := ob) nq (ok E)
  refine A _ _ (.ref q) E R1 ?_
  simp only [VR]
  refine ⟨q, rfl, ?_⟩
  show (g.m ++ [q])[h.length]? = some q
  rw [← R.len]
  simp
theorem c1_listM : C1 X (.type "list") vListM := ⟨_, call_list_of, fun W g H h σ v x Q R r A => by
  unfold vListM at A
  split at A
  · rename_i l hl
    obtain ⟨a, xs, rfl, s, rs⟩ := seqOf_ok R r hl
    exact ⟨a, xs, rfl, s, fun q nq => push_ok R A nq fun E => ⟨xs, upd_same, rs.ext R E⟩⟩
  · exact A.elim⟩
/-- dict(d): a copy -/
def vDict (v : Val) (h : Hv) : Res Val := match dicOf h v with
  | some l => .ok (.ref h.length) (h ++ [.dic l])
  | none => .fail
theorem c1_dict : C1 X (.type "dict") vDict := ⟨_, call_dictD, fun W g H h σ v x Q R r A => by
  unfold vDict at A
  split at A
  · rename_i l hl
    obtain ⟨i, a, ks, rfl, rfl, hm, hi, ha, d⟩ := dicOf_ok R r hl
    exact ⟨a, ks, rfl, .inl ha, fun q nq => push_ok R A nq fun E => ⟨ks, upd_same, d.1, d.2.ext R E⟩⟩
  · exact A.elim⟩

/-! ### methods -/
def isLst (h : Hv) (v : Val) : Bool := (lstOf h v).isSome
/-- x.append(e): the receiver stands first -/
def vAppend (x v : Val) (h : Hv) : Res Val := match x with
  | .ref i => match h[i]? with
    | some (.lst l) => if l.length < lineN then .ok .non (h.set i (.lst (l ++ [v]))) else .fail
    | _ => .fail
  | _ => .fail
def dMeth1 (ok : Hv → Val → Bool) (f : Val → Val → Hv → Res Val) (o e : Den) : Den := fun l h => (o l h).bind fun x h1 => if ok h1 x = true then (e l h1).bind fun v h2 => f x v h2 else .fail
theorem lst_ty {K : PySem.W.Frag} {g : Gh} {H : Hp} {h : Hv} {v : Val} {x : V} (R : HR K g H h) (r : VR K g H v x) (e : isLst h v = true) : tyV K "list" x H := by
  unfold isLst at e
  obtain ⟨l, hl⟩ := Option.isSome_iff_exists.mp e
  obtain ⟨a, xs, rfl, s, _⟩ := lstOf_ok R r hl
  exact .inl ⟨rfl, xs, SqL.of s⟩
def M1R (X : Cx) (T id : String) (ok : Hv → Val → Bool) (f : Val → Val → Hv → Res Val) : Prop := (∀ (g : Gh) (H : Hp) (h : Hv) (v : Val) (x : V), HR X.K g H h → VR X.K g H v x → ok h v = true → tyV X.K T x H) ∧
  ∃ r, MtR X id r ∧ ∀ (W : WX) (g : Gh) (H : Hp) (h : Hv) (σ : L2.St) (v u : Val) (x y : V) (Q : VK), HR X.K g H h → VR X.K g H v x → VR X.K g H u y → After X.K W (vr X.K) σ g H Q (f v u h) → r x [y] H Q
theorem ge_meth1 {T id : String} {name : Str} {ok : Hv → Val → Bool} {f : Val → Val → Hv → Res Val} {o e : Expr} {dx de : Den} {apos cpos : Pos} (hf : M1R X T id ok f) (pa : PlainAttrs T) (slot : Slot T name id) (hty : typeOf (.builtin id) = pure (.type "method_descriptor")) (ho : GE X W o dx) (he : GE X W e de)
    (hbase : attributeBase o name X.env (eval o X.env) = eval o X.env := by rfl)
    (hfew : ((backTo cpos (starEach [e] X.env)).all (fun x => !x.1) && (backToKw cpos (keywordEach [] X.env)).all (fun x => x.1.isSome)
      && decide (([e] : List Expr).length + ([] : List Keyword).length + (if ([] : List Keyword).isEmpty then 0 else 1) < 30)) = true := by rfl)
    (hline : (apos.endLine == cpos.line) = true := by rfl) (hs : starEach [e] X.env = (false, eval e X.env) :: starEach [] X.env := by rfl) (hplain : (backTo cpos (starEach [] X.env)).any (·.1) = false := by rfl) :
    GE X W (.Call (.Attribute o name apos) [e] [] cpos) (dMeth1 ok f dx de) := by
  obtain ⟨hty2, r, hc, hr⟩ := hf
  refine PE.imp (pe_bm pa slot hty hc ho (pa_cons he pa_nil hs) hbase hfew hline hs hplain) fun σ H Q ⟨g, l, h, S, R, A⟩ => ?_
  refine tG_of S R A fun v h1 g1 H1 x E S1 R1 r1 A1 => ?_
  split at A1
  · rename_i ok1
    refine ⟨hty2 g1 H1 h1 v x R1 r1 ok1, ?_⟩
    exact tG_of S1 R1 A1 fun u h2 g2 H2 y E2 S2 R2 r2 A2 => hr W g2 H2 h2 σ v u x y Q R2 (r1.ext R1 E2) r2 A2
  · exact A1.elim
theorem m1_append : M1R X "list" "list.append" isLst vAppend := ⟨fun g H h v x R r e => lst_ty R r e, _, mt_append, fun W g H h σ v u x y Q R rv ru A => by
  unfold vAppend at A
  split at A
  · rename_i i
    split at A
    · rename_i l hl
      split at A
      · rename_i hz
        simp only [VR] at rv
        obtain ⟨a, rfl, hm⟩ := rv
        obtain ⟨xs, e1, rs⟩ := ref_at R hl hm
        refine ⟨a, xs, y, rfl, rfl, e1, by rw [← rs.length]; exact line_lt hz, ?_⟩
        obtain ⟨E, R1⟩ := R.write (ob := .lst (l ++ [u])) (o' := .lst (xs ++ [y])) hm fun E => ⟨_, upd_same, (rs.ext R E).append (.one (ru.ext R E))⟩
        exact A g _ .non E R1 (by simp only [VR])
      · exact A.elim
    · exact A.elim
  · exact A.elim⟩
theorem ge_append {o e : Expr} {dx de : Den} {apos cpos : Pos} (ho : GE X W o dx) (he : GE X W e de) (hbase : attributeBase o "append" X.env (eval o X.env) = eval o X.env := by rfl)
    (hfew : ((backTo cpos (starEach [e] X.env)).all (fun x => !x.1) && (backToKw cpos (keywordEach [] X.env)).all (fun x => x.1.isSome)
      && decide (([e] : List Expr).length + ([] : List Keyword).length + (if ([] : List Keyword).isEmpty then 0 else 1) < 30)) = true := by rfl)
    (hline : (apos.endLine == cpos.line) = true := by rfl) (hs : starEach [e] X.env = (false, eval e X.env) :: starEach [] X.env := by rfl) (hplain : (backTo cpos (starEach [] X.env)).any (·.1) = false := by rfl) :
    GE X W (.Call (.Attribute o "append" apos) [e] [] cpos) (dMeth1 isLst vAppend dx de) := ge_meth1 m1_append PySem.F.plainAttrs_list PySem.F.slot_list_append PySem.F.type_list_append ho he hbase hfew hline hs hplain
/-- x.extend(e) -/
def vExtend (x v : Val) (h : Hv) : Res Val := match x with
  | .ref i => match h[i]?, seqOf h v with
    | some (.lst l), some k => if l.length + k.length ≤ lineN then .ok .non (h.set i (.lst (l ++ k))) else .fail
    | _, _ => .fail
  | _ => .fail
def rExtT (K : PySem.W.Frag) : V → List V → Hp → VK → Prop := fun x vs H Q => ∃ l b xs zs, x = .ref l ∧ vs = [.ref b] ∧ H l = some (.lst xs) ∧ SqT K H b zs ∧ xs.length + zs.length ≤ sizeLine ∧ Q .non (upd H l (.lst (xs ++ zs)))
theorem m1_extend_l : M1R X "list" "list.extend" isLst (fun x v h => if (lstOf h v).isSome then vExtend x v h else .fail) := ⟨fun g H h v x R r e => lst_ty R r e, _, mt_extend, fun W g H h σ v u x y Q R rv ru A => by
  dsimp only at A
  split at A
  · rename_i hs
    obtain ⟨k, hk⟩ := Option.isSome_iff_exists.mp hs
    have hk2 : seqOf h u = some k := by cases u <;> first | exact hk | (simp [lstOf] at hk)
    unfold vExtend at A
    split at A
    · rename_i i
      split at A
      · rename_i l k' hl hk'
        rw [hk2] at hk'
        cases hk'
        split at A
        · rename_i hz
          simp only [VR] at rv
          obtain ⟨a, rfl, hm⟩ := rv
          obtain ⟨xs, e1, rs⟩ := ref_at R hl hm
          obtain ⟨b, zs, rfl, s2, rz⟩ := lstOf_ok R ru hk
          refine ⟨a, b, xs, zs, rfl, rfl, e1, s2, by rw [← rs.length, ← rz.length]; exact line_ok hz, ?_⟩
          obtain ⟨E, R1⟩ := R.write (ob := .lst (l ++ k)) (o' := .lst (xs ++ zs)) hm fun E => ⟨_, upd_same, (rs.append rz).ext R E⟩
          exact A g _ .non E R1 (by simp only [VR])
        · exact A.elim
      · exact A.elim
    · exact A.elim
  · exact A.elim⟩
/-- x.pop() -/
def vPop (x : Val) (h : Hv) : Res Val := match x with
  | .ref i => match h[i]? with
    | some (.lst l) => match l.getLast? with
      | some v => .ok v (h.set i (.lst l.dropLast))
      | none => .fail
    | _ => .fail
  | _ => .fail
def dMeth0 (ok : Hv → Val → Bool) (f : Val → Hv → Res Val) (o : Den) : Den := fun l h => (o l h).bind fun x h1 => if ok h1 x = true then f x h1 else .fail
theorem ge_meth0 {T id : String} {name : Str} {ok : Hv → Val → Bool} {f : Val → Hv → Res Val} {o : Expr} {dx : Den} {apos cpos : Pos} {r : V → List V → Hp → VK → Prop} (pa : PlainAttrs T) (slot : Slot T name id) (hty : typeOf (.builtin id) = pure (.type "method_descriptor")) (hc : MtR X id r)
    (hty2 : ∀ (g : Gh) (H : Hp) (h : Hv) (v : Val) (x : V), HR X.K g H h → VR X.K g H v x → ok h v = true → tyV X.K T x H)
    (hr : ∀ (W : WX) (g : Gh) (H : Hp) (h : Hv) (σ : L2.St) (v : Val) (x : V) (Q : VK), HR X.K g H h → VR X.K g H v x → After X.K W (vr X.K) σ g H Q (f v h) → r x [] H Q) (ho : GE X W o dx)
    (hbase : attributeBase o name X.env (eval o X.env) = eval o X.env := by rfl) (hline : (apos.endLine == cpos.line) = true := by rfl) : GE X W (.Call (.Attribute o name apos) [] [] cpos) (dMeth0 ok f dx) := by
  refine PE.imp (pe_bm0 pa slot hty hc ho hbase hline) fun σ H Q ⟨g, l, h, S, R, A⟩ => ?_
  refine tG_of S R A fun v h1 g1 H1 x E S1 R1 r1 A1 => ?_
  split at A1
  · rename_i ok1
    exact ⟨hty2 g1 H1 h1 v x R1 r1 ok1, hr W g1 H1 h1 σ v x Q R1 r1 A1⟩
  · exact A1.elim
theorem VRs.dropLast {K : PySem.W.Frag} {g : Gh} {H : Hp} {l : List Val} {xs : List V} (r : VRs K g H l xs) : VRs K g H l.dropLast xs.dropLast := by
  rw [List.dropLast_eq_take, List.dropLast_eq_take, r.length]
  exact r.take _
theorem ge_pop {o : Expr} {dx : Den} {apos cpos : Pos} (ho : GE X W o dx) (hbase : attributeBase o "pop" X.env (eval o X.env) = eval o X.env := by rfl) (hline : (apos.endLine == cpos.line) = true := by rfl) : GE X W (.Call (.Attribute o "pop" apos) [] [] cpos) (dMeth0 isLst vPop dx) :=
  ge_meth0 PySem.F.plainAttrs_list PySem.F.slot_list_pop PySem.F.type_list_pop mt_pop (fun g H h v x R r e => lst_ty R r e) (fun W g H h σ v x Q R rv A => by
    unfold vPop at A
    split at A
    · rename_i i
      split at A
      · rename_i l hl
        split at A
        · rename_i w hw
          simp only [VR] at rv
          obtain ⟨a, rfl, hm⟩ := rv
          obtain ⟨xs, e1, rs⟩ := ref_at R hl hm
          rw [List.getLast?_eq_getElem?] at hw
          obtain ⟨y, hy, ry⟩ := rs.get hw
          refine ⟨a, xs, y, rfl, rfl, e1, by rw [← rs.length]; exact hy, ?_⟩
          obtain ⟨E, R1⟩ := R.write (ob := .lst l.dropLast) (o' := .lst xs.dropLast) hm fun E => ⟨_, upd_same, rs.dropLast.ext R E⟩
          exact A g _ y E R1 (ry.ext R E)
        · exact A.elim
      · exact A.elim
    · exact A.elim) ho hbase hline
/-- d.get(k), d.get(k, x) -/
def isDic (h : Hv) (v : Val) : Bool := (dicOf h v).isSome
def dGet1 (o e : Den) : Den := fun l h => (o l h).bind fun x h1 => if isDic h1 x = true then (e l h1).bind fun k h2 => (match dicOf h2 x, keyOf k with
  | some l, some _ => .ok ((dGet l k).getD .non) h2
  | _, _ => .fail) else .fail
def dGet2 (o e f : Den) : Den := fun l h => (o l h).bind fun x h1 => if isDic h1 x = true then (e l h1).bind fun k h2 => (f l h2).bind fun z h3 => (match dicOf h3 x, keyOf k with
  | some l, some _ => .ok ((dGet l k).getD z) h3
  | _, _ => .fail) else .fail
theorem dic_is {K : PySem.W.Frag} {g : Gh} {H : Hp} {h : Hv} {v : Val} {x : V} (R : HR K g H h) (r : VR K g H v x) (e : isDic h v = true) : ∃ a, x = .ref a ∧ IsD H a := by
  unfold isDic at e
  obtain ⟨l, hl⟩ := Option.isSome_iff_exists.mp e
  obtain ⟨i, a, ks, rfl, rfl, hm, hi, ha, d⟩ := dicOf_ok R r hl
  exact ⟨a, rfl, .inl ⟨ks, .inl ha⟩⟩
theorem dget_at {K : PySem.W.Frag} {g : Gh} {H : Hp} {h : Hv} {v k : Val} {x y : V} {l : List (Val × Val)} {kk : Key} (R : HR K g H h) (r : VR K g H v x) (rk : VR K g H k y) (hl : dicOf h v = some l) (hk : keyOf k = some kk) : ∃ a o, x = .ref a ∧ DGet H a y o ∧ ∀ z zx, VR K g H z zx → VR K g H ((dGet l k).getD z) (o.getD zx) := by
  obtain ⟨i, a, ks, rfl, rfl, hm, hi, ha, d⟩ := dicOf_ok R r hl
  obtain ⟨d1, d2⟩ := DR.get hk d
  refine ⟨a, valV ks kk, rfl, ?_, fun z zx rz => ?_⟩
  · rw [key_V rk hk]; exact DGet.k ha
  · cases e : dGet l k with
    | none => rw [d2 e]; exact rz
    | some w => obtain ⟨w', e1, r1⟩ := d1 w e; rw [e1]; exact r1
theorem ge_get1 {o e : Expr} {dx de : Den} {apos cpos : Pos} (hu : X.A.units + 1 < cLine) (ho : GE X W o dx) (he : GE X W e de) (m : M1 X o "get" apos e cpos := by exact ⟨rfl, rfl, rfl, rfl⟩) : GE X W (.Call (.Attribute o "get" apos) [e] [] cpos) (dGet1 dx de) := by
  refine PE.imp (pe_dget1 hu ho he m) fun σ H Q ⟨g, l, h, S, R, A⟩ => ?_
  refine tG_of S R A fun v h1 g1 H1 x E S1 R1 r1 A1 => ?_
  split at A1
  · rename_i ok1
    obtain ⟨a, rfl, hd⟩ := dic_is R1 r1 ok1
    refine ⟨a, rfl, hd, ?_⟩
    refine tG_of S1 R1 A1 fun u h2 g2 H2 y E2 S2 R2 r2 A2 => ?_
    split at A2
    · rename_i k kk hl hk
      obtain ⟨a', o, e1, dg, hz⟩ := dget_at R2 (r1.ext R1 E2) r2 hl hk
      cases e1
      exact ⟨o, dg, A2 g2 H2 _ Ext.refl R2 (hz .non .non (by simp only [VR]))⟩
    · exact A2.elim
  · exact A1.elim
theorem ge_get2 {o e f : Expr} {dx de df : Den} {apos cpos : Pos} (hu : X.A.units + 1 < cLine) (ho : GE X W o dx) (he : GE X W e de) (hf : GE X W f df) (m : M2 X o "get" apos e f cpos := by exact ⟨rfl, rfl, rfl, rfl⟩) : GE X W (.Call (.Attribute o "get" apos) [e, f] [] cpos) (dGet2 dx de df) := by
  refine PE.imp (pe_dget2 hu ho he hf m) fun σ H Q ⟨g, l, h, S, R, A⟩ => ?_
  refine tG_of S R A fun v h1 g1 H1 x E S1 R1 r1 A1 => ?_
  split at A1
  · rename_i ok1
    obtain ⟨a, rfl, hd⟩ := dic_is R1 r1 ok1
    refine ⟨a, rfl, hd, ?_⟩
    refine tG_of S1 R1 A1 fun u h2 g2 H2 y E2 S2 R2 r2 A2 => ?_
    refine tG_of S2 R2 A2 fun w h3 g3 H3 z E3 S3 R3 r3 A3 => ?_
    split at A3
    · rename_i k kk hl hk
      obtain ⟨a', o, e1, dg, hz⟩ := dget_at R3 ((r1.ext R1 E2).ext R2 E3) (r2.ext R2 E3) hl hk
      cases e1
      exact ⟨o, dg, A3 g3 H3 _ Ext.refl R3 (hz w z r3)⟩
    · exact A3.elim
  · exact A1.elim

/-! ### stores -/
/-- o[i] = v -/
def vSet (o i v : Val) (h : Hv) : Option Hv := match o with
  | .ref a => match h[a]? with
    | some (.dic l) => (match keyOf i with
      | some _ => if l.length < lineN then some (h.set a (.dic (dPut l i v))) else none
      | none => none)
    | some (.lst l) => (match i with
      | .int k => (match ixN l.length k with
        | some j => some (h.set a (.lst (l.set j v)))
        | none => none)
      | _ => none)
    | _ => none
  | _ => none
def rSetD : V → V → V → Hp → (Hp → Prop) → Prop := fun o i v H Q => ∃ a H', o = .ref a ∧ DPut H a i v H' ∧ Q H'
theorem set_dict (hu : X.A.units + 1 < cLine) : PSet X rSetD := by
  intro pins s σ H o i v ov iv u Q I ro ri rv h
  obtain ⟨a, H', rfl, d, q⟩ := h
  obtain rfl : ov = Value.ref a := ro
  exact d_setItem hu I d ri rv fun s' I' => ⟨H', I', q⟩
theorem PSet.or {t t' : TSet} (p : PSet X t) (p' : PSet X t') : PSet X fun o i v H Q => t o i v H Q ∨ t' o i v H Q := by
  intro pins s σ H o i v ov iv u Q I ro ri rv h
  rcases h with h | h
  · exact p pins s σ H o i v ov iv u Q I ro ri rv h
  · exact p' pins s σ H o i v ov iv u Q I ro ri rv h
theorem vSet_ok {g : Gh} {H : Hp} {h h' : Hv} {o i v : Val} {x y z : V} {Q : Hp → Prop} (R : HR X.K g H h) (ro : VR X.K g H o x) (ri : VR X.K g H i y) (rv : VR X.K g H v z) (e : vSet o i v h = some h') (q : ∀ H', Ext g H g H' → HR X.K g H' h' → Q H') : rSetL x y z H Q ∨ rSetD x y z H Q := by
  unfold vSet at e
  split at e
  · rename_i a
    simp only [VR] at ro
    obtain ⟨b, rfl, hm⟩ := ro
    split at e
    · rename_i l hl
      split at e
      · rename_i kk hk
        split at e
        · rename_i hz
          cases e
          obtain ⟨ks, e1, d⟩ := ref_at R hl hm
          obtain ⟨E, R1⟩ := R.write (ob := .dic (dPut l i v)) (o' := .dK (putK ks kk z)) hm fun E => ⟨_, upd_same, DR.put ⟨d.1, d.2.ext R E⟩ hk (rv.ext R E)⟩
          refine .inr ⟨b, _, rfl, ?_, q _ E R1⟩
          rw [key_V ri hk]
          exact DPut.k e1 (by rw [← d.length]; exact line_lt hz)
        · cases e
      · cases e
    · rename_i l hl
      split at e
      · rename_i k
        split at e
        · rename_i j hj
          cases e
          obtain ⟨xs, e1, rs⟩ := ref_at R hl hm
          obtain ⟨E, R1⟩ := R.write (ob := .lst (l.set j v)) (o' := .lst (xs.set j z)) hm fun E => ⟨_, upd_same, VRs.set j (rs.ext R E) (rv.ext R E)⟩
          simp only [VR] at ri
          subst ri
          exact .inl ⟨b, xs, k, j, rfl, rfl, e1, by rw [← rs.length]; exact hj, q _ E R1⟩
        · cases e
      · cases e
    · cases e
  · cases e
def Res.toT {α : Type} (r : Res α) (l : Loc) (k : α → Hv → TRes) : TRes := match r with
  | .ok v h => k v h
  | .exc e h => .exc e l h
  | .fail => .fail
@[simp] theorem Res.toT_ok {α : Type} (a : α) (h : Hv) (l : Loc) (k : α → Hv → TRes) : (Res.ok a h).toT l k = k a h := rfl
def gSub (o i : Den) : Tg := fun v l h => (o l h).toT l fun x h1 => (i l h1).toT l fun y h2 => match vSet x y v h2 with
  | some h3 => .ok l h3
  | none => .fail
theorem tG_T {α β : Type} {K : PySem.W.Frag} {W : WX} {σ : L2.St} {g : Gh} {H : Hp} {l : Loc} {h : Hv} {rel : Gh → Hp → α → β → Prop} {d : DenG α} {k : α → Hv → TRes} {Q : L2.St → Hp → Prop} {R : β → Hp → Prop} (S : SR K g H l σ) (hr : HR K g H h) (A : AfterT K W g H Q ((d l h).toT l k))
    (hk : ∀ v h1 g1 H1 x, Ext g H g1 H1 → SR K g1 H1 l σ → HR K g1 H1 h1 → rel g1 H1 v x → AfterT K W g1 H1 Q (k v h1) → R x H1) : tG K W rel d σ H R := by
  refine ⟨g, l, h, S, hr, ?_⟩
  cases e : d l h with
  | ok v h1 =>
    rw [e] at A
    intro g' H' x E R' r
    exact hk v h1 g' H' x E (S.ext hr E) R' r (AfterT.ext E A)
  | exc x h1 =>
    rw [e] at A
    intro g' H' c d' E R' r
    exact A g' H' σ c d' E R' (S.ext hr E) r
  | fail =>
    rw [e] at A
    exact A
theorem gg_sub {o i : Expr} {dx di : Den} {pos : Pos} (hu : X.A.units + 1 < cLine) (ho : GE X W o dx) (hi : GE X W i di)
    (ha : ∀ v, assign (.Subscript o i pos) X.env v = (do
      let ov ← holding [v] (eval o X.env)
      let iv ← holding [v, ov] (eval i X.env)
      standAt pos
      holding [v, ov, iv] (setItem ov iv v)
      release [v, ov, iv] []) := by intro _; rfl) : GG X W (.Subscript o i pos) (gSub dx di) := by
  refine PG.imp (pg_sub ho hi (PSet.or set_list (set_dict hu)) ha) fun y σ H Q ⟨g, l, h, v, S, R, r, A⟩ => ?_
  refine tG_T S R A fun x h1 g1 H1 x' E S1 R1 r1 A1 => ?_
  refine tG_T S1 R1 A1 fun z h2 g2 H2 z' E2 S2 R2 r2 A2 => ?_
  split at A2
  · rename_i h3 e
    exact vSet_ok R2 (r1.ext R1 E2) r2 ((r.ext R E).ext R1 E2) e fun H' E3 R3 => A2 g2 H' σ E3 R3 (S2.ext R2 E3)
  · exact A2.elim
/-- name op= e -/
def sAug (i : Nat) (f : Val → Val → Hv → Res Val) (d : Den) : Stm := fun l h => match l[i]? with
  | some (some x) => (d l h).to l fun y h1 => (f x y h1).to l fun z h2 => .nx (l.set i (some z)) h2
  | _ => .fail
theorem gs_aug (i : Nat) {f : Val → Val → Hv → Res Val} {x : Str} {e : Expr} {d : Den} {op : Operator} {pos' pos : Pos} (ho : OpG X (inplaceOp op) f) (he : GE X W e d) (hN : X.N.Nodup) (hi : X.N[i]? = some x := by rfl) (hx : L2.Loc X.env.scope x := by first | exact Or.inl rfl | exact Or.inr rfl)
    (hf : X.fn x = true ∨ X.env.scope.names.lookup x = some .local := by first | exact .inl rfl | exact .inr rfl) : GS X W (.AugAssign (.Name x pos') op e pos) (sAug i f d) := by
  obtain ⟨r, ho, hr⟩ := ho
  refine PS.imp (ps_aug hN hi hx he ho hf) fun D σ H ⟨g, l, h, S, R, A⟩ => ?_
  unfold sAug at A
  split at A
  · rename_i v ev
    obtain ⟨x, e1, rx⟩ := S.at_ i v ev
    refine ⟨x, e1, ?_⟩
    refine tG_to S R A fun y h1 g1 H1 y' E S1 R1 r1 A1 => ?_
    refine hr W g1 H1 h1 σ v y x y' _ R1 (rx.ext R E) r1 ?_
    cases ef : f v y h1 with
    | ok z h2 =>
      rw [ef] at A1
      exact fun g' H' z' E' R' rz => A1 g' H' _ E' R' ((S1.ext R1 E').set i rz)
    | exc x2 h2 =>
      rw [ef] at A1
      exact fun g' H' c d' E' R' re => A1 g' H' σ c d' E' R' (S1.ext R1 E') re
    | fail => rw [ef] at A1; exact A1
  · exact A.elim
def vIAdd (v u : Val) (h : Hv) : Res Val := match v, u with
  | .int i, .int j => .ok (.int (i + j)) h
  | .str a, .str b => if a.length + b.length ≤ lineN then .ok (.str (a ++ b)) h else .fail
  | _, _ => .fail
theorem og_iadd : OpG X (inplaceOp .Add) vIAdd := by
  refine ⟨_, iop_add.or iop_add_str, fun W g H h σ v u x y Q R rv ru A => ?_⟩
  unfold vIAdd at A
  split at A
  · simp only [VR] at rv ru
    subst rv ru
    exact .inl ⟨_, _, rfl, rfl, A g H _ Ext.refl R (by simp only [VR])⟩
  · split at A
    · rename_i hl
      simp only [VR] at rv ru
      subst rv ru
      exact .inr ⟨_, _, rfl, rfl, by rw [sOf_len, sOf_len]; exact line_ok hl, A g H _ Ext.refl R (by simp only [VR]; rw [sOf_append])⟩
    · exact A.elim
  · exact A.elim
theorem og_isub : OpG X (inplaceOp .Sub) vSub := og_int0 iop_sub fun W g H h σ v u Q R A => by
  unfold vSub at A
  split at A
  · exact ⟨_, _, rfl, rfl, A g H _ Ext.refl R (by simp only [VR])⟩
  · exact A.elim
end
end GH
set_option Elab.async false
set_option linter.all false
set_option maxRecDepth 100000
set_option maxHeartbeats 1000000
set_option autoImplicit false
/-! sorted of data, the first of them an empty tuple too; is of bools; dict displays; what stands at the top. -/
namespace PySem.W
open PySem PySem.Calls PySem.SeqAt PyProof.Rows
section
variable {prog : Program} {w : World} {A : Around} {E : Value → Shared → Prop} {s : Shared}
theorem gh_call_tuple_lt {Q : Value → Shared → Prop} {l b : Addr} {items items2 : Array Value} {e r : Nat → Bool} (hl : s.heap.IsTuple l items) (hb : s.heap.IsTuple b items2)
    (he : ∀ j (h1 : j < items.size) (h2 : j < items2.size), EqAt A.in1 s items[j] items2[j] (e j)) (hr : ∀ j (h1 : j < items.size) (h2 : j < items2.size), e j = false → RcLt A.in1 s items[j] items2[j] (r j))
    (h : Q (.bool (firstLt e r (decide (items.size < items2.size)) (List.range (min items.size items2.size)))) s) : wpAny (model prog w) A (call (.builtin "tuple.__lt__") [.ref l, .ref b]) Q E s := by
  obtain ⟨⟨cls, dd, data, sl⟩, ho, hc, n, hd⟩ := id hl
  obtain ⟨⟨cls2, dd2, data2, sl2⟩, ho2, hc2, n2, hd2⟩ := id hb
  simp only at hc hd hc2 hd2
  subst hc hd hc2 hd2
  exact call_meets F.slot_tuple_lt ⟨_, ho, rfl⟩ F.entry_tuple_lt (F.args_tuple_lt_2 _ _) (tuple_ltAt l b items items2 n n2 dd dd2 sl sl2 e r) ⟨ho, ho2, he, hr, h⟩
theorem gh_oneLt_tup {xs ys : List PyData} {a b : Value} {as bs : List Addr} {Q : Bool → Shared → Prop} (ra : Reads s.heap a (.tuple xs) as) (rb : Reads s.heap b (.tuple ys) bs) (hal : alikeAll xs ys = true)
    (hu : A.units + min (PyData.tuple xs).depth (PyData.tuple ys).depth < cLine) (hq : Q (dataLt (.tuple xs) (.tuple ys)) s) : wpAny (model prog w) A (oneLt' true a b) Q E s := by
  cases ra with
  | @tuple l o vs n _ as₁ h1 h2 h3 h4 =>
    cases rb with
    | @tuple l' o' vs' n' _ bs₁ k1 k2 k3 k4 =>
      have n1 : vs.size = xs.length := by simpa using ReadsAll.length _ _ _ h4
      have n2 : vs'.size = ys.length := by simpa using ReadsAll.length _ _ _ k4
      rw [dataLt_tuple, ← firstLt_toks xs ys hal, ← n1, ← n2] at hq
      rw [oneLt'_eq]
      simp only [if_true]
      refine wpAny_bind (wpAny_cRoomFor (room_here hu) ?_)
      refine wpAny_bind (wpAny_callSpecialIfBound?_slot (T := "tuple") ⟨_, h1, h2⟩ F.slot_tuple_lt (gh_call_tuple_lt (e := pairEq xs ys) (r := fun j => dataLt (xs.getD j .none) (ys.getD j .none)) ⟨_, h1, h2, _, h3⟩ ⟨_, k1, k2, _, k3⟩ (fun j j1 j2 => ?_) (fun j j1 j2 hj => ?_) ?_))
      · have := eqAt_alikeAll xs ys A.in1 s vs.toList vs'.toList _ _ h4 k4 hal (room_in hu) j (by simpa using j1) (by simpa using j2)
        simpa using this
      · have := rcLt_alikeAll xs ys A.in1 s vs.toList vs'.toList _ _ h4 k4 hal (room_in hu) j (by simpa using j1) (by simpa using j2) hj
        simpa using this
      · exact wpAny_truthy_bool hq
theorem gh_kind {M : Model} {vs : List Value} {Q : SortKind → Shared → Prop} {a : Addr} {o : Obj} {n : Nat} {rest : List Value} (ev : vs = .ref a :: rest) (ho : s.heap.get? a = some o) (hc : o.cls = .type "tuple") (hd : o.data = .seq #[] n)
    (hT : ∀ v ∈ vs, ∃ b o xs n, v = .ref b ∧ s.heap.get? b = some o ∧ o.cls = .type "tuple" ∧ o.data = .seq xs n) (hL : ∀ v ∈ vs, Looks M s.heap (typeOf v) (.type "tuple")) (h : Q oneType' s) :
    wpAny M A (keyKind' vs.toArray) Q E s := by
  rw [keyKind'_eq, List.mapM_toArray, map_eq_pure_bind]
  have first : ∀ (v : Value) (b : Addr) (o : Obj) (xs : Array Value) (n : Nat) (Q' : Option Value → Shared → Prop), v = .ref b → s.heap.get? b = some o → o.cls = .type "tuple" → o.data = .seq xs n → Q' xs[0]? s → wpAny M A (firstOfTuple' v) Q' E s := by
    intro v b o xs n Q' e1 e2 e3 e4 q
    subst e1
    rw [kas_first_eq]
    have : Looks M s.heap (typeOf (.ref b)) (.type "tuple") := e3 ▸ (Looks.ld e2).andThen .now
    refine wpAny_bind (this.here ?_)
    rw [if_neg (by simp)]
    exact wpAny_bind (listItems_at e2 e4 (wpAny_pure q))
  have all : ∀ (l : List Value) (Q' : List (Option Value) → Shared → Prop), (∀ v ∈ l, ∃ b o xs n, v = .ref b ∧ s.heap.get? b = some o ∧ o.cls = .type "tuple" ∧ o.data = .seq xs n) → (∀ fs : List (Option Value), fs.length = l.length → Q' fs s) → wpAny M A (l.mapM firstOfTuple') Q' E s := by
    intro l
    induction l with
    | nil => intro Q' _ q; rw [List.mapM_nil]; exact wpAny_pure (q [] rfl)
    | cons v l ih =>
      intro Q' hv q
      obtain ⟨b, o, xs, n, e1, e2, e3, e4⟩ := hv v (List.mem_cons_self ..)
      rw [List.mapM_cons]
      exact wpAny_bind (first v b o xs n _ e1 e2 e3 e4 (wpAny_bind (ih (fun bs s' => wpAny M A (pure (xs[0]? :: bs)) Q' E s') (fun v hv' => hv v (List.mem_cons_of_mem _ hv')) fun fs hl => wpAny_pure (q _ (by simp [hl])))))
  have go : ∀ fs : List (Option Value), fs.length = rest.length → wpAny M A (do
      if ((none :: fs : List (Option Value)).toArray.all (·.isSome)) = true then
        rule "list.sort.keys-are-tuples"
        return tuples' ((← oneTypeOnly' (((none :: fs : List (Option Value)).toArray.filterMap id))).any (· != .type "tuple"))
      if (((none :: fs : List (Option Value)).toArray)[0]?.bind id).isSome = true then return general'
      return if (← oneTypeOnly' vs.toArray).isSome = true then oneType' else general') Q E s := by
    intro fs hl
    rw [if_neg (by simp), if_neg (by simp)]
    rw [oneTypeOnly'_eq, List.mapM_toArray, map_eq_pure_bind]
    refine wpAny_bind (wpAny_bind (wpAny_bind (kas_mapM (r := Value.type "tuple") _ (fun v hv Q' hq => (hL v hv).here hq) (wpAny_pure ?_))))
    have hall : ((List.map (fun _ => Value.type "tuple") vs).toArray.all fun x => x == Value.type "tuple") = true := by
      simp only [List.all_toArray, List.all_map, List.all_eq_true]
      intro _ _
      exact beq_self_eq_true _
    have h0 : (List.map (fun _ => Value.type "tuple") vs).toArray[0]? = some (Value.type "tuple") := by rw [ev]; simp
    rw [h0]
    simp only [hall, if_true]
    exact wpAny_pure (wpAny_pure h)
  subst ev
  rw [List.mapM_cons]
  refine wpAny_bind (wpAny_bind (wpAny_bind (first _ a o #[] n _ rfl ho hc hd (wpAny_bind (all rest _ (fun v hv => hT v (List.mem_cons_of_mem _ hv)) fun fs hl => wpAny_pure ?_)))))
  exact wpAny_pure (go fs hl)
theorem GhSortsAt {vs : List Value} {ds : List PyData} (e : EachIs (fun v d => ∃ as, Reads s.heap v d as) vs ds) (hal : AllAlike ds) (hk : Sortable ds ∨ ∃ r, ds = .tuple [] :: r) (hu : ∀ d, d ∈ ds → A.units + d.depth < cLine) : SortsAt prog w A s (dataKind s.heap ds) vs := by
  rcases hk with hk | ⟨r, rfl⟩
  · exact SortsAt.data e hal hk hu
  have room : ∀ {d d' : PyData}, d ∈ PyData.tuple [] :: r → A.units + min d.depth d'.depth < cLine := fun {d d'} hd => Nat.lt_of_le_of_lt (Nat.add_le_add_left (Nat.min_le_left _ _) _) (hu d hd)
  have tup : ∀ d, d ∈ PyData.tuple [] :: r → ∃ xs, d = .tuple xs := by
    intro d hd
    have := hal d hd (.tuple []) (List.mem_cons_self ..)
    cases d with
    | tuple xs => exact ⟨xs, rfl⟩
    | _ => simp [alike] at this
  refine ⟨fun v hv => ?_, oneType', ?_, fun h2 E Q hq => ?_⟩
  · obtain ⟨d, hd, as, r⟩ := e.left v hv
    exact ⟨_, dataKind_some hal hd r⟩
  · intro E x y a b Q ha hb hq
    obtain ⟨d, as, hd, ra, rfl⟩ := dataKind_inv ha
    obtain ⟨d', as', hd', rb, rfl⟩ := dataKind_inv hb
    rw [keyLt'_oneType]
    have hdd := hal d hd d' hd'
    have hroom := room (d' := d') hd
    obtain ⟨xs, rfl⟩ := tup d hd
    obtain ⟨ys, rfl⟩ := tup d' hd'
    exact gh_oneLt_tup ra rb (by simpa [alike] using hdd) hroom hq
  · have shape : ∀ v d, d ∈ PyData.tuple [] :: r → (∃ as, Reads s.heap v d as) → ∃ b o xs n ds', v = .ref b ∧ s.heap.get? b = some o ∧ o.cls = .type "tuple" ∧ o.data = .seq xs n ∧ d = .tuple ds' ∧ xs.size = ds'.length := by
      intro v d hd ⟨as, ra⟩
      obtain ⟨ys, rfl⟩ := tup d hd
      cases ra with
      | @tuple l o vs n _ as₁ h1 h2 h3 h4 => exact ⟨l, o, vs, n, ys, rfl, h1, h2, h3, rfl, by simpa using ReadsAll.length _ _ _ h4⟩
    have hT : ∀ v ∈ vs, ∃ b o xs n, v = .ref b ∧ s.heap.get? b = some o ∧ o.cls = .type "tuple" ∧ o.data = .seq xs n := by
      intro v hv
      obtain ⟨d, hd, as, ra⟩ := e.left v hv
      obtain ⟨b, o, xs, n, _, q1, q2, q3, q4, _⟩ := shape v d hd ⟨as, ra⟩
      exact ⟨b, o, xs, n, q1, q2, q3, q4⟩
    have hL : ∀ v ∈ vs, Looks (model prog w) s.heap (typeOf v) (.type "tuple") := by
      intro v hv
      obtain ⟨b, o, xs, n, q1, q2, q3, q4⟩ := hT v hv
      subst q1
      show Looks _ _ (typeOf (Value.ref _)) _
      exact q3 ▸ (Looks.ld q2).andThen .now
    cases e with
    | @cons v0 _ _ _ ra t =>
      obtain ⟨b, o, xs, n, ds', q1, q2, q3, q4, q5, q6⟩ := shape v0 _ (List.mem_cons_self ..) ra
      cases q5
      have : xs = #[] := Array.eq_empty_of_size_eq_zero q6
      subst this
      subst q1
      exact gh_kind rfl q2 q3 q4 hT hL hq
theorem gh_sorted_data {β : Type} {vs : List Value} {bs : List β} {enc : β → PyData} {R : Value → β → Prop} {l : Addr} {Q : Value → Shared → Prop} (hl : s.heap.IsList l vs.toArray) (e : EachIs R vs bs) (er : EachIs (fun v b => ∃ as, Reads s.heap v (enc b) as) vs bs) (hal : AllAlike (bs.map enc)) (hk : Sortable (bs.map enc) ∨ ∃ r, bs.map enc = .tuple [] :: r) (hL : bs.length ≤ sizeLine)
    (hu : ∀ b, b ∈ bs → A.units + 2 + (enc b).depth < cLine) (h : ∀ out, out.length = bs.length → EachIs R out (bs.mergeSort (dataLe false enc)) → Q (.ref (s.heap.objs.size + 1)) { s with heap := sortedAll s.heap vs (List.toArray out) }) :
    wpAny (model prog w) A (call (.builtin "sorted") [.ref l]) Q E s := by
  have er' : EachIs (fun v b => ∃ as, Reads (sortingHeap (copyHeap s.heap vs) (s.heap.objs.size + 1) vs) v (enc b) as) vs bs := er.mono fun _ _ ⟨as, r⟩ => ⟨as, PyProof.Rows.Reads.keeps (fun _ _ => sorting_copy_old) r⟩
  exact sorted_vals hl (GhSortsAt (s := { s with heap := sortingHeap (copyHeap s.heap vs) (s.heap.objs.size + 1) vs }) (each_map (R := fun v d => ∃ as, Reads (sortingHeap (copyHeap s.heap vs) (s.heap.objs.size + 1) vs) v d as) enc er') hal hk (bound_map hu)) (by rw [e.length]; exact hL)
    (h _ (by rw [sortVals_length false rfl]; exact e.length) (sortVals_data false e er' hal))
end
end PySem.W
set_option Elab.async false
set_option linter.all false
set_option maxRecDepth 100000
set_option maxHeartbeats 1000000
set_option autoImplicit false
namespace GH
open PySem PySem.Spec PyProof.Rows L2
section
variable {K : PySem.W.Frag}
theorem OR.own {g g' : Gh} {H : Hp} {t : List Addr} (hm : g'.m = g.m ++ t) (ho : ∀ a, ¬ g.own a → ¬ g'.own a) {a : Addr} {o : Ob} (q : OR K g H a o) : OR K g' H a o := by
  cases o with
  | lst l => obtain ⟨xs, e, r⟩ := q; exact ⟨xs, e, r.own hm ho⟩
  | dic l => obtain ⟨xs, e, r⟩ := q; exact ⟨xs, e, r.1, r.2.own hm ho⟩
  | ins c f => obtain ⟨dx, gs, e, r⟩ := q; exact ⟨dx, gs, e, r.1, r.2.own hm ho⟩
theorem HR.aside {g : Gh} {H : Hp} {h : Hv} {D : Addr} {o : HO} (R1 : HR K g H h) (nD : H D = none) (mo : Mut (some o)) : ExtS g H ⟨g.m, D :: g.r⟩ (upd H D o) ∧ HR K ⟨g.m, D :: g.r⟩ (upd H D o) h := by
  have ES : ExtS g H ⟨g.m, D :: g.r⟩ (upd H D o) := ⟨⟨[], by simp, by simp⟩, ⟨[D], rfl, fun b hb => by rw [List.mem_singleton.mp hb]; exact nD⟩, fun b o e hb => by rw [upd_ne (ne_of_none e nD)]; exact e⟩
  refine ⟨ES, R1.len, R1.nd, fun a ha z => ?_, fun a ha => ?_, fun i o a e1 e2 => ?_⟩
  · rcases List.mem_cons.mp z with z | z
    · subst z; exact R1.fresh nD (.inl ha)
    · exact R1.dis a ha z
  · rcases List.mem_cons.mp ha with z | z
    · subst z; exact ⟨_, upd_same, mo⟩
    · obtain ⟨ob, e, mo⟩ := R1.al a z
      exact ⟨ob, by rw [upd_ne (ne_of_none e nD)]; exact e, mo⟩
  · have q := R1.obj i o a e1 e2
    cases o with
    | lst l => obtain ⟨xs, e, r⟩ := q; exact ⟨xs, by rw [upd_ne (ne_of_none e nD)]; exact e, r.extS R1 ES⟩
    | dic l => obtain ⟨xs, e, r⟩ := q; exact ⟨xs, by rw [upd_ne (ne_of_none e nD)]; exact e, r.1, r.2.extS R1 ES⟩
    | ins c f => obtain ⟨dx, gs, e, r⟩ := q; exact ⟨dx, gs, by rw [upd_ne (ne_of_none e nD)]; exact e, r.1, r.2.extS R1 ES⟩
theorem promote {W : WX} {σ : L2.St} {g1 g2 : Gh} {H1 H : Hp} {h h1 : Hv} {Q : VK} {D : Addr} {o0 o1 : HO} {ob : Ob} (R1 : HR K g1 H1 h1) (nD : H1 D = none) (E : Ext ⟨g1.m, D :: g1.r⟩ (upd H1 D o0) g2 H) (R : HR K g2 H h) (m1 : Mut (some o1))
    (hob : ∀ {g3 : Gh} {t : List Addr}, g3.m = g2.m ++ t → (∀ a, ¬ g2.own a → ¬ g3.own a) → OR K g3 (upd H D o1) D ob) (A : After K W (vr K) σ g1 H1 Q (.ok (.ref h.length) (h ++ [ob]))) : Q (.ref D) (upd H D o1) := by
  have hD : D ∈ g2.r := by rw [E.r]; exact List.mem_cons_self ..
  have er : g2.r = D :: g1.r := E.r
  have hr : ∀ b ∈ g1.r, b ∈ g2.r := fun b hb => by rw [er]; exact List.mem_cons_of_mem _ hb
  have nm : D ∉ g2.m := fun z => R.dis D z hD
  have nr : D ∉ g1.r := fun z => by obtain ⟨o, e⟩ := R1.own_there (.inr z); rw [nD] at e; cases e
  obtain ⟨ods, e0, m0⟩ := R.al D hD
  have R := R.reset (zs := o1) hD e0 m0 m1
  obtain ⟨t, em, n⟩ := E.m
  have em : g2.m = g1.m ++ t := em
  have E' : Ext g1 H1 ⟨g2.m ++ [D], g1.r⟩ (upd H D o1) := ⟨⟨t ++ [D], by show g2.m ++ [D] = _; rw [em, List.append_assoc], fun b hb => by
    rcases List.mem_append.mp hb with hb | hb
    · have q := n b hb
      have hne : b ≠ D := by rintro rfl; rw [upd_same] at q; cases q
      rw [upd_ne hne] at q
      exact q
    · rw [List.mem_singleton.mp hb]; exact nD⟩, rfl, fun b o e hb => by
      have hne := ne_of_none e nD
      rw [upd_ne hne]
      exact E.keep b o (by rw [upd_ne hne]; exact e) hb, fun b o e => by
      have hne := ne_of_none e nD
      rw [upd_ne hne]
      exact E.there b o (by rw [upd_ne hne]; exact e)⟩
  have hm : (Gh.mk (g2.m ++ [D]) g1.r).m = g2.m ++ [D] := rfl
  have ho : ∀ a, ¬ g2.own a → ¬ (Gh.mk (g2.m ++ [D]) g1.r).own a := fun a ha z => by
    rcases z with z | z
    · rcases List.mem_append.mp z with z | z
      · exact ha (.inl z)
      · exact ha (.inr (by rw [List.mem_singleton.mp z]; exact hD))
    · exact ha (.inr (hr a z))
  refine A ⟨g2.m ++ [D], g1.r⟩ (upd H D o1) (.ref D) E' ⟨by simp [R.len], ?_, fun a ha => ?_, fun a ha => R.al a (hr a ha), fun i o a e1 e2 => ?_⟩ ?_
  · show (g2.m ++ [D]).Nodup
    refine List.nodup_append.mpr ⟨R.nd, by simp, fun a ha b hb => ?_⟩
    rw [List.mem_singleton.mp hb]
    rintro rfl
    exact nm ha
  · have ha : a ∈ g2.m ++ [D] := ha
    rcases List.mem_append.mp ha with ha | ha
    · exact fun z => R.dis a ha (hr a z)
    · rw [List.mem_singleton.mp ha]; exact nr
  · have e2 : (g2.m ++ [D])[i]? = some a := e2
    by_cases hi : i < h.length
    · rw [List.getElem?_append_left hi] at e1
      rw [List.getElem?_append_left (by rw [R.len]; exact hi)] at e2
      exact (R.obj i o a e1 e2).own hm ho
    · have hi' : i = h.length := by
        have := (List.getElem?_eq_some_iff.mp e1).1
        simp at this
        omega
      subst hi'
      rw [List.getElem?_append_right (Nat.le_refl _)] at e1
      rw [List.getElem?_append_right (by rw [R.len]; exact Nat.le_refl _)] at e2
      simp at e1
      rw [R.len] at e2
      simp at e2
      subst e1 e2
      exact hob hm ho
  · simp only [VR]
    refine ⟨D, rfl, ?_⟩
    show (g2.m ++ [D])[h.length]? = some D
    rw [← R.len]
    simp

/-! ### dict displays -/
def dPairs : List (Den × Den) → Loc → Hv → Res (List (Val × Val))
  | [], _, h => .ok [] h
  | (a, b) :: r, l, h => match a l h with
    | .ok k h1 => (match b l h1 with
      | .ok v h2 => (match dPairs r l h2 with
        | .ok ps h3 => .ok ((k, v) :: ps) h3
        | _ => .fail)
      | _ => .fail)
    | _ => .fail
def dMk (ps : List (Val × Val)) : List (Val × Val) := ps.foldl (fun acc p => dPut acc p.1 p.2) []
def dDisp (ds : List (Den × Den)) : Den := fun l h => match dPairs ds l h with
  | .ok ps h1 => if (ps.all fun p => (keyOf p.1).isSome) = true ∧ ps.length ≤ 15 then .ok (.ref h1.length) (h1 ++ [.dic (dMk ps)]) else .fail
  | _ => .fail
abbrev tPP (K : PySem.W.Frag) (ds : List (Den × Den)) : List (TE × TE) := ds.map fun p => (tG K W0 (vr K) p.1, tG K W0 (vr K) p.2)
theorem pairs_of {l : Loc} {σ : L2.St} : ∀ {ds : List (Den × Den)} {g : Gh} {H : Hp} {h h' : Hv} {ps : List (Val × Val)} {Rq : List (V × V) → Hp → Prop}, SR K g H l σ → HR K g H h → dPairs ds l h = .ok ps h' →
    (∀ g' H' xs, Ext g H g' H' → HR K g' H' h' → VRs K g' H' (ps.map (·.1)) (xs.map (·.1)) → VRs K g' H' (ps.map (·.2)) (xs.map (·.2)) → Rq xs H') → tPairs (tPP K ds) σ H Rq
  | [], g, H, h, h', ps, Rq, S, R, e, c => by
    simp only [dPairs, Res.ok.injEq] at e
    obtain ⟨rfl, rfl⟩ := e
    exact c g H [] Ext.refl R VRs.nil VRs.nil
  | (a, b) :: r, g, H, h, h', ps, Rq, S, R, e, c => by
    simp only [dPairs] at e
    split at e
    · rename_i k h1 ea
      split at e
      · rename_i v h2 eb
        split at e
        · rename_i ps' h3 er
          simp only [Res.ok.injEq] at e
          obtain ⟨rfl, rfl⟩ := e
          refine ⟨g, l, h, S, R, ?_⟩
          dsimp only
          rw [ea]
          intro g1 H1 x E1 R1 rk
          have S1 := S.ext R E1
          refine ⟨g1, l, h1, S1, R1, ?_⟩
          show After K W0 (vr K) σ g1 H1 _ (b l h1)
          rw [eb]
          intro g2 H2 y E2 R2 rv
          refine pairs_of (S1.ext R1 E2) R2 er fun g3 H3 xs E3 R3 r1 r2 => ?_
          refine c g3 H3 ((x, y) :: xs) ((E1.trans E2).trans E3) R3 ?_ ?_
          · exact VRs.cons ((VR.ext R1 E2 rk).ext R2 E3) r1
          · exact VRs.cons (VR.ext R2 E3 rv) r2
        · cases e
      · cases e
    · cases e
def GPs (X : Cx) (pos : Pos) (keys : List (Option Expr)) (values : List Expr) (ds : List (Den × Den)) : Prop := PPs X pos keys values (tPP X.K ds)
section
variable {X : Cx} {W : WX}
theorem gps_nil {pos : Pos} : GPs X pos [] [] [] := pps_nil
theorem gps_cons {pos : Pos} {k v : Expr} {ks : List (Option Expr)} {vs : List Expr} {a b : Den} {ds : List (Den × Den)} (hk : GE X W0 k a) (hv : GE X W0 v b) (hr : GPs X pos ks vs ds) : GPs X pos (some k :: ks) (v :: vs) ((a, b) :: ds) := pps_cons hk hv hr
theorem merge_ok {g : Gh} {H : Hp} : ∀ {ps : List (Val × Val)} {kvs : List (Key × V)} {acc : List (Val × Val)} {ka : List (Key × V)}, DR K g H acc ka → ps.map (fun p => keyOf p.1) = kvs.map (fun q => some q.1) → VRs K g H (ps.map (·.2)) (kvs.map (·.2)) →
    DR K g H (ps.foldl (fun acc p => dPut acc p.1 p.2) acc) (mergeK ka kvs)
  | [], [], acc, ka, d, _, _ => d
  | [], _ :: _, _, _, _, e, _ => by cases e
  | _ :: _, [], _, _, _, e, _ => by cases e
  | p :: ps, q :: kvs, acc, ka, d, e, r => by
    simp only [List.map_cons, List.cons.injEq] at e
    simp only [List.map_cons, VRs] at r
    obtain ⟨x, xs, e1, r1, r2⟩ := r
    cases e1
    show DR K g H (ps.foldl (fun acc p => dPut acc p.1 p.2) (dPut acc p.1 p.2)) (mergeK (putK ka q.1 q.2) kvs)
    exact merge_ok (d.put e.1 r1) e.2 r2
theorem kvs_of {g : Gh} {H : Hp} : ∀ {ps : List (Val × Val)} {xs : List (V × V)}, (ps.all fun p => (keyOf p.1).isSome) = true → VRs K g H (ps.map (·.1)) (xs.map (·.1)) → VRs K g H (ps.map (·.2)) (xs.map (·.2)) →
    ∃ kvs : List (Key × V), xs = kvs.map (fun kv => (kV kv.1, kv.2)) ∧ ps.map (fun p => keyOf p.1) = kvs.map (fun q => some q.1) ∧ VRs K g H (ps.map (·.2)) (kvs.map (·.2)) ∧ kvs.length = ps.length
  | [], [], _, _, _ => ⟨[], rfl, rfl, VRs.nil, rfl⟩
  | [], _ :: _, _, r, _ => by simp [VRs] at r
  | _ :: _, [], _, r, _ => by simp [VRs] at r
  | p :: ps, x :: xs, a, r1, r2 => by
    simp only [List.all_cons, Bool.and_eq_true] at a
    simp only [List.map_cons, VRs] at r1 r2
    obtain ⟨y, ys, e1, q1, t1⟩ := r1
    cases e1
    obtain ⟨y, ys, e1, q2, t2⟩ := r2
    cases e1
    obtain ⟨kvs, e1, e2, e3, e4⟩ := kvs_of a.2 t1 t2
    obtain ⟨k, hk⟩ := Option.isSome_iff_exists.mp a.1
    refine ⟨(k, x.2) :: kvs, ?_, ?_, ?_, by simp [e4]⟩
    · rw [e1, List.map_cons, ← key_V q1 hk]
    · simp only [List.map_cons, hk, e2]
    · exact VRs.cons q2 e3
theorem ge_disp {keys : List (Option Expr)} {values : List Expr} {ds : List (Den × Den)} {pos : Pos} (hp : GPs X pos keys values ds) (hall : keys.all (·.isSome) = true := by rfl) (hl : keys.length = values.length := by rfl) (h0 : keys ≠ [] := by exact fun h => nomatch h)
    (h15 : keys.length ≤ 15 := by decide) : GE X W (.Dict keys values pos) (dDisp ds) := by
  refine PE.imp (pe_disp hp hall hl h0 h15) fun σ H Q ⟨g, l, h, S, R, A⟩ p np => ?_
  obtain ⟨ES, RD⟩ := R.aside (o := .dK []) np trivial
  unfold dDisp at A
  split at A
  · rename_i ps h1 ep
    split at A
    · rename_i hk
      refine pairs_of (S.extS R ES) RD ep fun g2 H2 xs E R2 r1 r2 => ?_
      obtain ⟨kvs, e1, e2, e3, e4⟩ := kvs_of hk.1 r1 r2
      have hD : p ∈ g2.r := by rw [E.r]; exact List.mem_cons_self ..
      have e0 : H2 p = some (.dK []) := E.keep p _ upd_same (fun z => R.fresh np (.inl z))
      refine ⟨e0, kvs, e1, by rw [e4]; exact hk.2, ?_⟩
      refine promote R np E R2 trivial (fun hm ho => ?_) A
      obtain ⟨ods, eq0, m0⟩ := R2.al p hD
      have d := merge_ok DR.nil e2 (e3.reset (zs := .dK (mergeK [] kvs)) hD eq0 m0)
      exact ⟨_, upd_same, d.1, d.2.own hm ho⟩
    · exact A.elim
  · exact A.elim

/-! ### {} -/
def dNewD : Den := fun _ h => .ok (.ref h.length) (h ++ [.dic []])
theorem ge_dnew {pos : Pos} : GE X W (.Dict [] [] pos) dNewD := PE.imp pe_dnewK fun σ H Q ⟨g, l, h, S, R, A⟩ p np => push_ok R A np fun E => ⟨[], upd_same, DR.nil⟩

/-! ### is of bools -/
def vIsB (v u : Val) (h : Hv) : Res Val := match v, u with
  | .bl a, .bl b => .ok (.bl (decide (a = b))) h
  | _, _ => .fail
def vNotB (v u : Val) (h : Hv) : Res Val := match v, u with
  | .bl a, .bl b => .ok (.bl (!decide (a = b))) h
  | _, _ => .fail
theorem og_isB : OpG X (compareOp .Is) vIsB := by
  refine ⟨_, op_isBl, fun W g H h σ v u x y Q R rv ru A => ?_⟩
  unfold vIsB at A
  split at A
  · simp only [VR] at rv ru
    exact ⟨_, _, rv, ru, A g H _ Ext.refl R (by simp only [VR])⟩
  · exact A.elim
theorem og_notB : OpG X (compareOp .IsNot) vNotB := by
  refine ⟨_, op_notBl, fun W g H h σ v u x y Q R rv ru A => ?_⟩
  unfold vNotB at A
  split at A
  · simp only [VR] at rv ru
    exact ⟨_, _, rv, ru, A g H _ Ext.refl R (by simp only [VR])⟩
  · exact A.elim

/-! ### never -/
def dFail : Den := fun _ _ => .fail
def sFail : Stm := fun _ _ => .fail
theorem ge_fail {e : Expr} : GE X W e dFail := ⟨fun _ _ _ _ _ _ ⟨_, _, _, _, _, A⟩ => A.elim⟩
theorem gs_fail {s : Stmt} : GS X W s sFail := ⟨fun _ _ _ _ _ _ ⟨_, _, _, _, _, A⟩ => A.elim⟩
theorem gss_fail {s : List Stmt} : GSs X W s sFail := ⟨fun _ _ _ _ _ _ ⟨_, _, _, _, _, A⟩ => A.elim⟩

/-! ### what stands at the top -/
theorem ge_top {x : Str} {v : Val} {y : V} {u : Value} {pos : Pos} (hm : X.mg x = some u) (r : RelV y u) (rv : ∀ g H, VR X.K g H v y) (hg : Gl X x := by rfl) (hd : (x == ("__debug__" : Str)) = false := by decide +kernel) : GE X W (.Name x pos) (dC v) := ge_c (pe_glob hg hm r hd) rv
/-- a table at the top: texts to texts -/
def dTab (t : List (List Nat × Val)) (d : Den) : Den := fun l h => (d l h).bind fun v h1 => match v with
  | .str s => (match t.lookup s with
    | some w => .ok w h1
    | none => .fail)
  | _ => .fail
theorem ix_tab {d : Addr} {es : Array DictEntry} {n : Nat} (D : KDict X.K X.w d es n) : IxR X (fun x y H Q => ∃ (z : Str) (u0 : Value) (v0 : V), x = .ref d ∧ y = .str z ∧ PySem.W.nsIn X.K d z = some (some u0) ∧ RelV v0 u0 ∧ Q v0 H) := by
  intro value slice pins s σ H x y v u Q I rx ry h hs
  obtain ⟨z, u0, v0, rfl, rfl, e, r, q⟩ := h
  have hv : v = Value.ref d := rx
  subst hv
  exact tail_any (kd_type D I) PySem.F.slot_dict_getitem.lookup (op_item_kd D pins s σ H (.ref d) (.str z) (.ref d) u Q I rfl ry ⟨z, u0, v0, rfl, rfl, e, r, q⟩) hs
theorem ge_tab (t : List (List Nat × Val)) {d : Addr} {es : Array DictEntry} {n : Nat} {x : Str} {b : Expr} {db : Den} {p pos : Pos} (D : KDict X.K X.w d es n) (hm : X.mg x = some (.ref d)) (ht : ∀ q ∈ t, ∃ u y, PySem.W.nsIn X.K d (sOf q.1) = some (some u) ∧ RelV y u ∧ ∀ g H, VR X.K g H q.2 y)
    (hb : GE X W b db) (hg : Gl X x := by rfl) (hd : (x == ("__debug__" : Str)) = false := by decide +kernel) (hs : PlainIx b := by exact fun _ _ => rfl) : GE X W (.Subscript (.Name x p) b pos) (dTab t db) := by
  refine PE.imp (pe_ix (ix_tab D) (pe_glob (v := .ref d) hg hm rfl hd) hb hs) fun σ H Q ⟨g, l, h, S, R, A⟩ => ?_
  refine tG_of S R A fun v h1 g1 H1 x E S1 R1 r1 A1 => ?_
  split at A1
  · rename_i s
    split at A1
    · rename_i w e
      have hm : ∃ q ∈ t, q = (s, w) := by
        have gen : ∀ tb : List (List Nat × Val), tb.lookup s = some w → (s, w) ∈ tb := by
          intro tb
          induction tb with
          | nil => intro z; cases z
          | cons p tb ih =>
            intro z
            rw [List.lookup_cons] at z
            split at z
            · rename_i q
              cases z
              rw [show s = p.1 by simpa using q]
              exact List.mem_cons_self ..
            · exact List.mem_cons_of_mem _ (ih z)
        exact ⟨_, gen t e, rfl⟩
      obtain ⟨q, hq, rfl⟩ := hm
      obtain ⟨u, y, e1, e2, e3⟩ := ht _ hq
      simp only [VR] at r1
      subst r1
      exact ⟨_, u, y, rfl, rfl, e1, e2, A1 g1 H1 y Ext.refl R1 (e3 g1 H1)⟩
    · exact A1.elim
  · exact A1.elim

/-! ### sorted -/
def isNE : Val → Bool
  | .tup (_ :: _) => true
  | _ => false
def isPlainK : Val → Bool
  | .bl _ | .int _ | .str _ => true
  | _ => false
def sortOk (l : List Val) : Bool := okVs l && (l.all fun a => l.all fun b => PySem.W.alike (pd a) (pd b)) && (l.all isNE || l.all isPlainK || (match l with
  | .tup [] :: _ => true
  | _ => false)) && decide (dpVs l ≤ 190)
noncomputable def sortV (l : List Val) : List Val := l.mergeSort (PySem.W.dataLe false pd)
noncomputable def vSorted (v : Val) (h : Hv) : Res Val := match lstOf h v with
  | some l => if sortOk l = true then .ok (.lst (sortV l)) h else .fail
  | none => .fail
noncomputable def vSortedM (v : Val) (h : Hv) : Res Val := match lstOf h v with
  | some l => if sortOk l = true then .ok (.ref h.length) (h ++ [.lst (sortV l)]) else .fail
  | none => .fail
def rSortG (K : PySem.W.Frag) : List V → Hp → VK → Prop := fun vs H Q => ∃ (g : Gh) (a : Addr) (xs : List V) (bs : List Val), vs = [.ref a] ∧ SqL K H a xs ∧ VRs K g H bs xs ∧ sortOk bs = true ∧ ∀ ys p, VRs K g H (sortV bs) ys → H p = none → Q (.ref p) (upd H p (.lst ys))
theorem each_VR {g : Gh} {H : Hp} : ∀ {bs : List Val} {xs : List V} {us : List Value}, VRs K g H bs xs → Vals xs us → PySem.W.EachIs (fun u b => ∃ x, RelV x u ∧ VR K g H b x) us bs
  | [], xs, us, r, q => by
    simp only [VRs] at r
    subst r
    cases q
    exact .nil
  | b :: bs, xs, us, r, q => by
    simp only [VRs] at r
    obtain ⟨x, ys, rfl, r1, r2⟩ := r
    cases q with
    | cons q1 q2 => exact .cons ⟨x, q1, r1⟩ (each_VR r2 q2)
theorem VRs_each {g : Gh} {H : Hp} : ∀ {bs : List Val} {us : List Value}, PySem.W.EachIs (fun u b => ∃ x, RelV x u ∧ VR K g H b x) us bs → ∃ xs, VRs K g H bs xs ∧ Vals xs us
  | _, _, .nil => ⟨[], VRs.nil, .nil⟩
  | _, _, .cons ⟨x, q1, r1⟩ t => by
    obtain ⟨xs, r2, q2⟩ := VRs_each t
    exact ⟨x :: xs, VRs.cons r1 r2, .cons q1 q2⟩
theorem okVs_mem : ∀ {l : List Val} {v : Val}, okVs l = true → v ∈ l → okV v = true
  | w :: l, v, o, m => by
    simp only [okVs, Bool.and_eq_true] at o
    rcases List.mem_cons.mp m with rfl | m
    · exact o.1
    · exact okVs_mem o.2 m
theorem dpVs_mem : ∀ {l : List Val} {v : Val}, v ∈ l → dpV v ≤ dpVs l
  | w :: l, v, m => by
    simp only [dpVs]
    rcases List.mem_cons.mp m with rfl | m
    · omega
    · have := dpVs_mem m; omega
theorem cr_sortG (hu : X.A.units + 200 < cLine) : CallR X (.builtin "sorted") (rSortG X.K) := by
  intro pins s σ H vs us Q I r h
  obtain ⟨g, a, xs, bs, rfl, hs, rb, ok, q⟩ := h
  obtain ⟨its, rv, hl, hz⟩ := I.list hs
  rw [Vals.ref1 r]
  simp only [sortOk, Bool.and_eq_true, decide_eq_true_eq] at ok
  obtain ⟨⟨⟨o1, o2⟩, o3⟩, o4⟩ := ok
  have hlen : bs.length = its.length := by rw [rb.length, rv.length]
  refine PySem.W.gh_sorted_data (enc := pd) (bs := bs) hl.isList (each_VR rb rv) ?_ (fun d hd d' hd' => ?_) ?_ (by rw [rb.length]; exact hz) (fun b hb => ?_) fun out hlo eo => ?_
  · refine (PySem.W.each_mem (each_VR rb rv)).mono fun u b ⟨⟨x, q1, q2⟩, hb⟩ => ?_
    exact Dp.reads I _ _ _ (VR.dp (okVs_mem o1 hb) q2) q1
  · obtain ⟨b, hb, rfl⟩ := List.mem_map.mp hd
    obtain ⟨b', hb', rfl⟩ := List.mem_map.mp hd'
    exact List.all_eq_true.mp (List.all_eq_true.mp o2 b hb) b' hb'
  · simp only [Bool.or_eq_true] at o3
    rcases o3 with (o3 | o3) | o3
    · refine .inl (.inl fun d hd => ?_)
      obtain ⟨b, hb, rfl⟩ := List.mem_map.mp hd
      have := List.all_eq_true.mp o3 b hb
      unfold isNE at this
      split at this
      · exact ⟨_, _, by simp only [pd, pds]; rfl⟩
      · cases this
    · refine .inl (.inr fun d hd => ?_)
      obtain ⟨b, hb, rfl⟩ := List.mem_map.mp hd
      have := List.all_eq_true.mp o3 b hb
      unfold isPlainK at this
      split at this
      · exact ⟨by simp [pd], fun xs => by simp [pd]⟩
      · exact ⟨by simp [pd], fun xs => by simp [pd]⟩
      · exact ⟨by simp [pd], fun xs => by simp [pd]⟩
      · cases this
    · split at o3
      · exact .inr ⟨_, by simp only [List.map_cons, pd, pds]; rfl⟩
      · cases o3
  · have h1 := dpVs_mem hb
    rw [pd_depth]
    omega
  · obtain ⟨ys, r1, r2⟩ := VRs_each eo
    obtain ⟨ep, he'⟩ := PyProof.Rows.sortedAll_at s.heap its out.toArray
    have hlen2 : ys.length ≤ sizeLine := by rw [r2.length, hlo, rb.length]; exact hz
    exact ⟨.ref _, upd H (s.heap.objs.size + 1) (.lst ys), I.laid (t' := s.toks) (fun _ _ => PyProof.Rows.sortedAll_old) (Nat.le_succ _) ⟨hlen2, out, ep, r2, he'⟩, rfl, q ys _ r1 (I.hok.fresh (Nat.le_succ _))⟩
theorem sorted_at {g : Gh} {H : Hp} {h : Hv} {v : Val} {x : V} {l : List Val} {Q : VK} (R : HR X.K g H h) (r : VR X.K g H v x) (hl : lstOf h v = some l) (ok : sortOk l = true) (c : ∀ ys p, VRs X.K g H (sortV l) ys → H p = none → Q (.ref p) (upd H p (.lst ys))) : rSortG X.K [x] H Q := by
  obtain ⟨a, xs, rfl, s, rs⟩ := lstOf_ok R r hl
  exact ⟨g, a, xs, l, rfl, SqL.of s, rs, ok, c⟩
theorem c1_sorted (hu : X.A.units + 200 < cLine) : C1 X (.builtin "sorted") vSorted := ⟨_, cr_sortG hu, fun W g H h σ v x Q R r A => by
  unfold vSorted at A
  split at A
  · rename_i l hl
    split at A
    · rename_i ok
      refine sorted_at R r hl ok fun ys p ry np => ?_
      obtain ⟨E4, R4⟩ := R.grow (o := .lst ys) np
      refine A g _ (.ref p) E4 R4 ?_
      simp only [VR]
      exact ⟨p, _, rfl, R.fresh np, upd_same, ry.ext R E4⟩
    · exact A.elim
  · exact A.elim⟩
theorem c1_sortedM (hu : X.A.units + 200 < cLine) : C1 X (.builtin "sorted") vSortedM := ⟨_, cr_sortG hu, fun W g H h σ v x Q R r A => by
  unfold vSortedM at A
  split at A
  · rename_i l hl
    split at A
    · rename_i ok
      exact sorted_at R r hl ok fun ys p ry np => push_ok R A np fun E => ⟨ys, upd_same, ry.ext R E⟩
    · exact A.elim
  · exact A.elim⟩
end
end
end GH
set_option Elab.async false
set_option linter.all false
set_option maxRecDepth 100000
set_option maxHeartbeats 1000000
set_option autoImplicit false
/-! All defs at once: levels; the law's end. -/
namespace GH
open PySem PySem.Spec PyProof.Rows L2
abbrev Gam := Nat → DF
section
variable {X : Cx} {W : WX}
theorem takes0 : Takes X W0 := fun u s' ⟨_, _, _, _, _, _, _, _, _, _, _, _, _, _, _, _, w⟩ => w.elim
/-- arguments, with their number -/
structure GAN (X : Cx) (W : WX) (es : List Expr) (n : Nat) (d : DenG (List Val)) : Prop where
  ga : GA X W es d
  len : ∀ l h vs h', d l h = .ok vs h' → vs.length = n
theorem gan_nil : GAN X W [] 0 dNil := ⟨ga_nil, fun l h vs h' e => by
  simp only [dNil, Res.ok.injEq] at e
  rw [← e.1]; rfl⟩
theorem gan_cons {e : Expr} {es : List Expr} {n : Nat} {d : Den} {r : DenG (List Val)} (ha : GE X W e d) (hr : GAN X W es n r) (hs : starEach (e :: es) X.env = (false, eval e X.env) :: starEach es X.env := by rfl) : GAN X W (e :: es) (n + 1) (dCons d r) := by
  refine ⟨ga_cons ha hr.ga hs, fun l h vs h' q => ?_⟩
  unfold dCons at q
  cases e1 : d l h with
  | exc x h1 => rw [e1] at q; cases q
  | fail => rw [e1] at q; cases q
  | ok v h1 =>
    rw [e1] at q
    simp only [Res.bind_ok] at q
    cases e2 : r l h1 with
    | exc x h2 => rw [e2] at q; cases q
    | fail => rw [e2] at q; cases q
    | ok ws h2 =>
      rw [e2] at q
      simp only [Res.bind_ok, Res.ok.injEq] at q
      rw [← q.1, List.length_cons, hr.len _ _ _ _ e2]
end
/-- a def of the top keeps D -/
structure FnK (P : Program) (w : World) (K : PySem.W.Frag) (mg : Str → Option Value) (base : Heap) (k : Nat) (D : DF) (x : Str) (ps : List Str) : Prop where
  ok : ∃ fd, FnOk P w K mg base (L2.CX P w) k (He.ga K x) fd ps (spG K D ps.length) ∧ Binds K fd ps []
  glo : mg x = some (.ref (He.ga K x))
  keep : PySem.W.keepIn K (.ref (He.ga K x)) = true
section
variable {X : Cx} {W : WX}
theorem ge_fn {D : DF} {k n : Nat} {ps : List Str} {x : Str} {p pos : Pos} {e : Expr} {es : List Expr} {da : DenG (List Val)} (F : FnK X.prog X.w X.K X.mg X.base k D x ps) (hr : Room k X.A) (tk : Takes X W) (ha : GAN X W (e :: es) n da)
    (hn : n = ps.length := by rfl) (hg : Gl X x := by rfl) (hdb : (x == ("__debug__" : Str)) = false := by decide +kernel)
    (he : starEach (e :: es) X.env = (false, eval e X.env) :: starEach es X.env := by rfl) (hpl : (backTo pos (starEach es X.env)).any (·.1) = false := by rfl) : GE X W (.Call (.Name x p) (e :: es) [] pos) (dCall D da) := by
  obtain ⟨fd, F1, b⟩ := F.ok
  exact ge_call F1 hr tk F.glo F.keep b ha.ga (fun l h vs h' q => (ha.len l h vs h' q).trans hn) hg hdb he hpl
end
/-- the defs' promises -/
def AllK (P : Program) (w : World) (K : PySem.W.Frag) (mg : Str → Option Value) (base : Heap) (sig : List (Str × List Str)) (k : Nat) (Γ : Gam) : Prop := ∀ (j : Nat) (x : Str) (ps : List Str), sig[j]? = some (x, ps) → FnK P w K mg base k (Γ j) x ps
def lev (D : Gam → Gam) : Nat → Gam
  | 0 => fun _ _ _ => .fail
  | k + 1 => D (lev D k)
theorem levels {P : Program} {w : World} {K : PySem.W.Frag} {mg : Str → Option Value} {base : Heap} {sig : List (Str × List Str)} {D : Gam → Gam}
    (h0 : ∀ (j : Nat) (x : Str) (ps : List Str), sig[j]? = some (x, ps) → mg x = some (.ref (He.ga K x)) ∧ PySem.W.keepIn K (.ref (He.ga K x)) = true ∧ ∃ fd, Binds K fd ps [])
    (step : ∀ k Γ, AllK P w K mg base sig k Γ → ∀ (j : Nat) (x : Str) (ps : List Str), sig[j]? = some (x, ps) → FnK P w K mg base (k + 1) (D Γ j) x ps) : ∀ k, AllK P w K mg base sig k (lev D k)
  | 0 => fun j x ps e => by
    obtain ⟨g, kp, fd, b⟩ := h0 j x ps e
    refine ⟨⟨fd, ⟨fun vs H Q E h => h.1, fun A outer s H args us vs Q E hr he hb hv hs => ?_⟩, b⟩, g, kp⟩
    obtain ⟨_, _, _, _, _, _, z⟩ := hs
    exact z.elim
  | k + 1 => step k _ (levels h0 step k)
/-- what a law that answers True keeps -/
theorem sp_law {K : PySem.W.Frag} {D : DF} {H : Hp} {a : Addr} {ns : List Int} (hO : Only H) (hs : SqL K H a (ns.map V.int)) (hD : ∃ h', D [.fz (ns.map .int)] [] = .ok (.bl true) h') : spG K D 1 [.ref a] H (fun v _ => v = .bl true) fun _ _ _ => False := by
  obtain ⟨h', e⟩ := hD
  refine ⟨rfl, ⟨[], []⟩, [], [.fz (ns.map .int)], ⟨rfl, List.nodup_nil, fun a ha => absurd ha (by simp), fun a ha => absurd ha (by simp), fun i o a e1 e2 => by simp at e1⟩, ?_, ?_⟩
  · have hint : ∀ ns : List Int, VRs K ⟨[], []⟩ H (ns.map .int) (ns.map V.int) := by
      intro ns
      induction ns with
      | nil => exact VRs.nil
      | cons n ns ih => exact VRs.cons (by simp only [VR]) ih
    refine VRs.one ?_
    simp only [VR]
    refine ⟨a, _, rfl, ?_, hint ns⟩
    rcases hs with (hs | ⟨o, hs⟩) | hs
    · rcases hO a with q | ⟨o, xs, q⟩ <;> rw [q] at hs <;> cases hs
    · exact .inl ⟨o, hs⟩
    · exact .inr hs
  · rw [e]
    intro g' H' x E R r
    simpa only [VR] using r
end GH
set_option Elab.async false
set_option linter.all false
set_option maxRecDepth 100000
set_option maxHeartbeats 1000000
namespace PySem
open Sem (wp)
open AutoSeq1 (wpAny_loadPart')
set_option maxHeartbeats 1000000 in
theorem gh_enumerate_newT (l : Addr) (items : Array Value) (n : Nat) (dct : Option Addr) (sl : Array (Option Value)) :
    Meets (Builtin.«enumerate.__new__» ⟨[.type "enumerate", .ref l], []⟩) (fun _ R s => s.heap.get? l = some { cls := .type "tuple", dict := dct, data := .seq items n, slots := sl } ∧
      R (.ok (.ret (.ref (s.heap.push { cls := .type "tuple_iterator", data := .fields #[.ref l, .int 0 0] }).objs.size)))
        { s with heap := (s.heap.push { cls := .type "tuple_iterator", data := .fields #[.ref l, .int 0 0] }).push { cls := .type "enumerate", data := .fields #[.none, .bool false, .ref s.heap.objs.size, rawInt 0, .none, .none] } }) :=
  .of_wp fun prog w A R s h => by
    obtain ⟨hp, g, d, tk, os⟩ := s; obtain ⟨hl, h⟩ := h
    have hsub := sub_enumerate
    have hL : Heap.IsTuple (Shared.heap ⟨hp, g, d, tk, os⟩) l items := ⟨_, hl, rfl, n, rfl⟩
    wp_walk using wpAny_loadPart' hl
    refine wpAny_stack_any fun st => wpAny_pure ?_
    split
    · rename_i c _ _ _ _ _
      cases (c == Value.type "enumerate")
      · wp_walk using wpAny_loadPart' hl, wpAny_pyIter_tuple hL
        exact ⟨_, rfl, h⟩
      · wp_walk using wpAny_loadPart' hl, wpAny_pyIter_tuple hL
        exact ⟨_, rfl, h⟩
    · wp_walk using wpAny_loadPart' hl, wpAny_pyIter_tuple hL
      exact ⟨_, rfl, h⟩
section
variable {prog : Program} {w : World} {A : Around} {E : Value → Shared → Prop} {s : Shared}
theorem gh_call_enumerate_tuple {l : Addr} {items : Array Value} {Q : Value → Shared → Prop} (hL : s.heap.IsTuple l items)
    (h : ∀ h', IsEnum h' (s.heap.objs.size + 1) s.heap.objs.size 0 .none → h'.IsTupleIter s.heap.objs.size l 0 → h'.objs.size = s.heap.objs.size + 2 →
      (∀ b o, s.heap.get? b = some o → h'.get? b = some o) → Q (.ref (s.heap.objs.size + 1)) { s with heap := h' }) :
    wpAny (model prog w) A (call (.type "enumerate") [.ref l]) Q E s := by
  obtain ⟨⟨c, dct, dt, sl⟩, hl, hc, n, hd⟩ := hL
  replace hc : c = .type "tuple" := hc
  replace hd : dt = .seq items n := hd
  subst hc hd
  refine callType_new F.called_enumerate (by decide) (F.typeCall_enumerate_1 _) (F.newCall_enumerate_1 _) (fun obj => F.args_object_init_2 obj _) F.entry_enumerate_new
    (gh_enumerate_newT l items n dct sl) ⟨hl, ?_⟩
  have hz : (s.heap.push { cls := .type "tuple_iterator", data := .fields #[.ref l, .int 0 0] }).objs.size = s.heap.objs.size + 1 := Heap.size_push ..
  show _ ∧ _
  rw [hz]
  have he : IsEnum ((s.heap.push { cls := .type "tuple_iterator", data := .fields #[.ref l, .int 0 0] }).push
      { cls := .type "enumerate", data := .fields #[.none, .bool false, .ref s.heap.objs.size, rawInt 0, .none, .none] }) (s.heap.objs.size + 1) s.heap.objs.size 0 .none := by
    have := Heap.get?_push_size (s.heap.push { cls := .type "tuple_iterator", data := .fields #[.ref l, .int 0 0] })
      (o := { cls := .type "enumerate", data := .fields #[.none, .bool false, .ref s.heap.objs.size, rawInt 0, .none, .none] }) rfl
    rw [hz] at this; exact this
  exact ⟨⟨_, he, rfl⟩, h _ he ⟨_, Heap.get?_push_of_some _ (Heap.get?_push_size _ rfl), rfl, rfl⟩ (by rw [Heap.size_push, hz]) fun b o x => Heap.get?_push_of_some _ (Heap.get?_push_of_some _ x)⟩
end
end PySem
namespace GH
open PySem PySem.Spec PyProof.Rows L2
/-- the tuple at a, each item in a new pair -/
def IteT (K : PySem.W.Frag) (a : Addr) : It :=
  ⟨fun i H => ∃ (xs : List V) (x : V), SqT K H a xs ∧ xs[i]? = some x, fun i H v H' => ∃ T x, v = .ref T ∧ H T = none ∧ H' = upd H T (.tup [.int (i : Nat), x]) ∧ ∀ xs, SqT K H a xs → xs[i]? = some x, fun i H => ∃ xs : List V, SqT K H a xs ∧ xs.length ≤ i⟩
theorem turn_enumT {P : Program} {w : World} {K : PySem.W.Frag} {elts : List Expr} {kk : Nat} {tpos : Pos} (a e it : Addr) :
    Turn P w K (.Tuple elts kk tpos) (IteT K a) [e, it] e (fun i h => (∃ old, IsEnum h e it ((i : Nat) : Int) old) ∧ h.IsTupleIter it a i ∧ e ≠ it) where
  mem := by simp
  obj := fun i h st b hb => by
    obtain ⟨⟨old, he⟩, ⟨o, ho, hc, hd⟩, _⟩ := st
    have e' : b = e ∨ b = it := by simpa using hb
    rcases e' with z | z
    · rw [z]; exact ⟨_, he, fun v q => nomatch q⟩
    · rw [z]; exact ⟨o, ho, fun v q => by rw [hd] at q; cases q⟩
  keep := fun i h h' st k => let ⟨⟨old, he⟩, hi, hne⟩ := st; ⟨⟨old, k e (by simp) _ he⟩, hi.at fun o q => k it (by simp) o q, hne⟩
  item := by
    intro X hP hw hK hc i pins s σ H E I hf st hg
    subst hP hw hK
    obtain ⟨⟨old, he⟩, hit, hne⟩ := st
    obtain ⟨xs, x, hq, hx⟩ := hg
    obtain ⟨its, rv, p, hz⟩ := I.tuple hq
    obtain ⟨u, hu, ru⟩ := rv.get hx
    have p : s.heap.IsTuple a its.toArray := p
    have hel : e < s.heap.objs.size := Heap.lt_size he
    have hil : it < s.heap.objs.size := by obtain ⟨_, q, _⟩ := hit; exact Heap.lt_size q
    have nai : a ≠ it := by
      rintro rfl
      obtain ⟨o, ho, hc, _⟩ := hit
      obtain ⟨o2, ho2, hc2, _⟩ := p
      rw [ho] at ho2
      cases ho2
      rw [hc] at hc2
      exact absurd hc2 (by decide)
    have nae : e ∉ [it, a] := by
      intro z
      have z : e = it ∨ e = a := by simpa using z
      rcases z with z | rfl
      · exact hne z
      · obtain ⟨o2, ho2, hc2, _⟩ := p
        rw [he] at ho2
        cases ho2
        have hc2 : Value.type "enumerate" = Value.type "tuple" := hc2
        exact absurd hc2 (by decide)
    have D := Draws.tuple (prog := X.prog) (w := X.w) (A := X.A.in1) (I.ok.hd hc) it a nai its.toArray
    refine wpAny_pyNext_enum_itemD D he ⟨hit, p⟩ (by
      have := (List.getElem?_eq_some_iff.mp hu).1
      simpa using this) hne nae fun u' h' tk hP' ho hst' hT hsz hk => ?_
    obtain rfl : u = u' := by
      have : its[i]? = some u' := by simpa using hP'
      rw [hu] at this
      exact Option.some.inj this
    refine ⟨_, rfl, wpAny_letOwnedTupleGo_enum (s := { s with heap := h', toks := tk + 1 }) ho fun h'' he' sb => ?_⟩
    have hT2 : h''.get? s.heap.objs.size = some { cls := .type "tuple", data := .seq #[.int i tk, u] } := (sb.2 _ (Nat.ne_of_gt hel)).trans hT
    have new : ObjOk X.prog X.w (upd H s.heap.objs.size (.tup [.int (i : Nat), x])) h'' s.heap.objs.size (.tup [.int (i : Nat), x]) :=
      ⟨by show 2 ≤ sizeLine; decide, [.int i tk, u], .cons ⟨_, rfl⟩ (.cons ru .nil), ⟨_, hT2, rfl, _, rfl⟩⟩
    have I1 : Inv X pins σ (upd H s.heap.objs.size (.tup [.int (i : Nat), x])) { s with heap := h'', toks := tk + 1 } :=
      I.turnedNew (ch := [e, it]) (fun b ob hb q => (sb.2 b (fun z => hb (by simp [z]))).trans (hk b ob (fun z => hb (by simp [z])) (fun z => hb (by simp [z])) q)) hf (Nat.le_refl _) new
    refine ⟨.ref s.heap.objs.size, _, I1, rfl, ⟨_, x, rfl, I.hok.fresh (Nat.le_refl _), rfl, fun ys hy => by rw [I.tuple_inj hy hq]; exact hx⟩, ⟨⟨u, ?_⟩, hst'.1.at fun o q => (sb.2 it (Ne.symm hne)).trans q, hne⟩, fun b hb => ?_⟩
    · have e1 : ((i + 1 : Nat) : Int) = (i : Int) + 1 := by omega
      rw [e1]; exact he'
    · have hb' : b < s.heap.objs.size := by
        have e' : b = e ∨ b = it := by simpa using hb
        rcases e' with z | z
        · rw [z]; exact hel
        · rw [z]; exact hil
      rw [upd_ne (Nat.ne_of_lt hb')]
      exact (hf b hb).1
  done := by
    intro X hP hw hK hc i pins s σ H E I hf st hg
    subst hP hw hK
    obtain ⟨⟨old, he⟩, hit, hne⟩ := st
    obtain ⟨xs, hq, hx⟩ := hg
    obtain ⟨its, rv, p, hz⟩ := I.tuple hq
    have p : s.heap.IsTuple a its.toArray := p
    obtain ⟨f0, f1, f2, f3, f4, f5⟩ := hf it (by simp)
    have hl := rv.length
    have hT : s.TypeIs (.ref e) "enumerate" := ⟨_, he, rfl⟩
    unfold pyNext
    refine wpAny_bind (wpAny_attempt (wpAny_callSpecial?_slot (name := Str.ofString "__next__") hT F.slot_enumerate_next
      (wpAny_call_entry F.slot_enumerate_next hT F.entry_enumerate_next ?_ (F.args_enumerate_next_1 _))))
    show wpAny _ _ (field (.ref e) 2 >>= _) _ _ _
    refine wpAny_bind (wpAny_field he rfl (x := .ref it) rfl ?_)
    refine wpAny_bind (wpAny_nextOf_tuple_end (A := X.A.in1) (I.ok.hd hc) hit p (by simp; omega) fun h' x eb hx' => ?_)
    obtain ⟨o, ho, hc⟩ := hx'
    refine wpAny_bind (wpAny_isInstance (T := "StopIteration") (b := true) ⟨o, ho, hc⟩ isSubtype_stop ?_)
    exact wpAny_pure ⟨rfl, I.turned (t' := s.toks) (fun b o hb q => eb b o hb q) f0 f1 f3 f4 f5⟩
  self := fun A i s Q E st h => let ⟨⟨_, he⟩, _⟩ := st; wpAny_pyIter_enum he h
section
def enumL (l : List Val) : List Val := l.mapIdx fun i v => .tup [.int (i : Nat), v]
def vEnum (v : Val) (h : Hv) : Res Src := match v with
  | .tup l => .ok (enumL l, none) h
  | .lst l => .ok (enumL l, none) h
  | .fz l => .ok (enumL l, none) h
  | _ => .fail
def iEnumG (d : Den) : DenG Src := fun l h => (d l h).bind vEnum
variable {K : PySem.W.Frag} {g0 g : Gh} {H0 H : Hp}
theorem serves_pairs {J : It} {xs : List V} {l : List Val} {G : Hp → Prop} {h : Hv} (R0 : HR K g0 H0 h) (w : Walk J xs.length G (YPair (fun i => some (.int (i : Nat))) (fun i => xs[i]?))) (hG : ∀ g H, ExtS g0 H0 g H → G H) (r : VRs K g0 H0 l xs) :
    Serves K J g0 H0 (enumL l, none) :=
  serves_of (n := xs.length) (by simp [enumL, r.length]) fun g H h E R _ => ⟨_, _, w, hG g H E, fun i x H' v hv y => by
    obtain ⟨T, x1, y1, rfl, nT, rfl, e1, e2⟩ := y
    unfold enumL at hv
    rw [List.getElem?_mapIdx] at hv
    cases ez : l[i]? with
    | none => rw [ez] at hv; cases hv
    | some p =>
      rw [ez] at hv
      simp at hv
      subst hv
      obtain ⟨a2, b2, c2⟩ := r.get ez
      have e1 : some (V.int (i : Nat)) = some x1 := e1
      have e2 : xs[i]? = some y1 := e2
      rw [e2] at b2; cases b2
      cases e1
      obtain ⟨E4, R4⟩ := R.grow (o := .tup [.int (i : Nat), y1]) nT
      refine ⟨E4, R4, ?_⟩
      simp only [VR]
      exact ⟨T, _, rfl, SqT.of upd_same, VRs.cons (by simp only [VR]) (.one ((c2.extS R0 E).ext R E4))⟩⟩
theorem walk_enumT {a : Addr} {xs : List V} : Walk (IteT K a) xs.length (fun H => SqT K H a xs) (YPair (fun i => some (.int (i : Nat))) (fun i => xs[i]?)) :=
  ⟨fun i _ hi q => ⟨xs, xs[i], q, by simp [hi]⟩, fun _ q => ⟨xs, q, Nat.le_refl _⟩, fun i H x H' _ q y => by
    obtain ⟨T, z, e1, e2, e3, e4⟩ := y
    exact ⟨T, _, z, e1, e2, e3, rfl, e4 xs q⟩⟩
variable {X : Cx} {W : WX}
theorem gi_enum {e : Expr} {d : Den} {p pos tpos : Pos} {elts : List Expr} {kk : Nat} (he : GE X W e d) (hm : X.mg "enumerate" = none) (hg : Gl X "enumerate" := by rfl) (hs : starEach [e] X.env = (false, eval e X.env) :: starEach [] X.env := by rfl) (hs1 : starEach [e] X.env = [(false, eval e X.env)] := by rfl) :
    GI X W (.Tuple elts kk tpos) (.Call (.Name "enumerate" p) [e] [] pos) (iEnumG d) := by
  refine ⟨fun pins s σ H R I ⟨g, l, h, S, Rh, A⟩ => ?_⟩
  have start : tCons (tG X.K W (vr X.K) d) tNil σ H fun vs H1 => ∃ x v h1 g1, vs = [x] ∧ HR X.K g1 H1 h1 ∧ VR X.K g1 H1 v x ∧ AfterI X.K W σ g1 H1 R (vEnum v h1) :=
    tG_I S Rh A fun v h1 g1 H1 x E S1 R1 r1 A1 => ⟨x, v, h1, g1, rfl, R1, r1, A1⟩
  refine Call_ (ld_blt I hg hm boot_enumerate (PyProof.Rows.callWith_type1 (thn ((pa_cons he pa_nil hs).run pos pins s σ H _ I start) fun us s1 ⟨vs, H1, I1, r1, q1⟩ => ?_) hs1 rfl))
  obtain ⟨x, v, h1, g1, rfl, R1, rv, A1⟩ := q1
  cases r1 with
  | cons r rr =>
    cases rr
    have fp : ∀ b ∈ [s1.heap.objs.size + 1, s1.heap.objs.size], FpOk X pins H1 b := fun b hb => by
      have e' : b = s1.heap.objs.size + 1 ∨ b = s1.heap.objs.size := by simpa using hb
      have hle : s1.heap.objs.size ≤ b := by
        rcases e' with z | z
        · rw [z]; exact Nat.le_add_right _ _
        · rw [z]; exact Nat.le_refl _
      exact I1.fpOk hle (I1.hok.fresh hle)
    cases v with
    | tup items =>
      simp only [VR] at rv
      obtain ⟨a, xs, rfl, hq, rs⟩ := rv
      cases r
      obtain ⟨its, rv, p', hz⟩ := I1.tuple hq
      refine PySem.gh_call_enumerate_tuple (show s1.heap.IsTuple a its.toArray from p') fun h' he hit hsz hk => wpAny_pyIter_enum he ?_
      have I2 : Inv X pins σ H1 { s1 with heap := h' } := I1.kept (t' := s1.toks) hk
      exact ⟨s1.heap.objs.size + 1, [s1.heap.objs.size + 1, s1.heap.objs.size], _, _, H1, rfl, I2, turn_enumT a (s1.heap.objs.size + 1) s1.heap.objs.size, ⟨⟨.none, he⟩, hit, Nat.succ_ne_self _⟩, fp,
        A1.2 g1 H1 _ Ext.refl R1 (by simp only [enumL, List.length_mapIdx, rs.length]; exact hz) (serves_pairs R1 walk_enumT (fun g H E => sqT_ext R1 E hq) rs)⟩
    | lst items =>
      simp only [VR] at rv
      obtain ⟨a, xs, rfl, na, hq, rs⟩ := rv
      cases r
      obtain ⟨its, rv, p', hz⟩ := I1.list (SqL.of hq)
      refine call_enumerate_list p'.isList fun h' he hit hsz hk => wpAny_pyIter_enum he ?_
      have I2 : Inv X pins σ H1 { s1 with heap := h' } := I1.kept (t' := s1.toks) hk
      exact ⟨s1.heap.objs.size + 1, [s1.heap.objs.size + 1, s1.heap.objs.size], _, _, H1, rfl, I2, turn_enum a (s1.heap.objs.size + 1) s1.heap.objs.size, ⟨⟨.none, he⟩, hit, Nat.succ_ne_self _⟩, fp,
        A1.2 g1 H1 _ Ext.refl R1 (by simp only [enumL, List.length_mapIdx, rs.length]; exact hz) (serves_pairs R1 walk_enum (fun g H E => sqL_ext R1 E na (SqL.of hq)) rs)⟩
    | fz items =>
      simp only [VR] at rv
      obtain ⟨a, xs, rfl, hq, rs⟩ := rv
      cases r
      obtain ⟨its, rv, p', hz⟩ := I1.list hq.sq
      refine call_enumerate_list p'.isList fun h' he hit hsz hk => wpAny_pyIter_enum he ?_
      have I2 : Inv X pins σ H1 { s1 with heap := h' } := I1.kept (t' := s1.toks) hk
      exact ⟨s1.heap.objs.size + 1, [s1.heap.objs.size + 1, s1.heap.objs.size], _, _, H1, rfl, I2, turn_enum a (s1.heap.objs.size + 1) s1.heap.objs.size, ⟨⟨.none, he⟩, hit, Nat.succ_ne_self _⟩, fp,
        A1.2 g1 H1 _ Ext.refl R1 (by simp only [enumL, List.length_mapIdx, rs.length]; exact hz) (serves_pairs R1 walk_enum (fun g H E => (hq.imp fun o s => E.keep _ _ s (R1.not_own s fun z => z)).sq) rs)⟩
    | _ => exact A1.elim
end
/-! ### a, b = x, y -/
section
variable {X : Cx} {W : WX}
def sPar (i j : Nat) (d : DenG (List Val)) : Stm := fun l h => (d l h).to l fun vs h1 => match vs with
  | [v, w] => .nx ((l.set i (some v)).set j (some w)) h1
  | _ => .fail
theorem gs_par (i j : Nat) {x y : Str} {a b : Expr} {d : DenG (List Val)} {px py pt pos : Pos} {kt k2 pt2} (hc : X.calm = true) (hN : X.N.Nodup) (ha : GA X W [a, b] d) (hi : X.N[i]? = some x := by rfl) (hj : X.N[j]? = some y := by rfl) (hij : i ≠ j := by decide)
    (hx : X.env.scope.names.lookup x = some .local := by rfl) (hy : X.env.scope.names.lookup y = some .local := by rfl)
    (hw : swappedStores [.Tuple [.Name x px, .Name y py] kt pt] (.Tuple [a, b] k2 pt2) X.env = pure (some [x, y]) := by rfl)
    (hs : swapsWithSole [.Tuple [.Name x px, .Name y py] kt pt] (.Tuple [a, b] k2 pt2) pos.line X.env = pure false := by rfl) :
    GS X W (.Assign [.Tuple [.Name x px, .Name y py] kt pt] (.Tuple [a, b] k2 pt2) pos) (sPar i j d) := by
  refine PS.imp (ps_par hc hN hi hj hij hx hy ha hw hs) fun D σ H ⟨g, l, h, S, R, A⟩ => ?_
  refine tG_to S R A fun vs h1 g1 H1 xs E S1 R1 r1 A1 => ?_
  split at A1
  · rename_i v w
    have r1 : VRs X.K g1 H1 [v, w] xs := r1
    simp only [VRs] at r1
    obtain ⟨x1, _, rfl, rx, x2, _, rfl, ry, rfl⟩ := r1
    exact ⟨x1, x2, rfl, A1 g1 H1 _ Ext.refl R1 ((S1.set i rx).set j ry)⟩
  · exact A1.elim
end
end GH
set_option Elab.async false
set_option linter.all false
set_option autoImplicit false
namespace GH
open PySem PySem.Spec PyProof.Rows L2
def CXA (P : Program) : CXT := fun outer H s E u s' => ∃ w, L2.CX P w outer H s E u s'
theorem cxa_none {P : Program} (H : Hp) (s : Shared) (e : Value) (s' : Shared) (h : CXA P [] H s (fun _ _ _ => False) e s') : False := by
  obtain ⟨w, h⟩ := h
  obtain ⟨_, _, _, _, _, _, _, _, _, _, _, _, z⟩ := h
  exact z
theorem fn_cxa {P : Program} {w : World} {K : PySem.W.Frag} {mg : Str → Option Value} {base : Heap} {k : Nat} {f : Addr} {fd : FuncData} {ps : List Str} {sp : Sp} (F : FnOk P w K mg base (L2.CX P w) k f fd ps sp) : FnOk P w K mg base (CXA P) k f fd ps sp :=
  ⟨F.len, fun A outer s H args us vs Q E hr he hb hv hs => PySem.codeAny_mono (F.run A outer s H args us vs Q E hr he hb hv hs) fun r s' c => by
    unfold CR at c ⊢
    split at c
    · exact c
    · exact c
    · exact ⟨w, c⟩⟩
theorem glo_of {K : PySem.W.Frag} {mg : Str → Option Value} {base : Heap} (X : K.In base) (G : base.Ns mainGlobals mg) {x : Str} (c : (He.Fa.glo x).ok K = true) : mg x = some (.ref (He.ga K x)) := He.glo_ok X G c
end GH
set_option Elab.async false
set_option linter.all false
set_option maxRecDepth 100000
set_option maxHeartbeats 1000000
set_option autoImplicit false
/-! Plain reasoning about the functions. -/
namespace GH
open PySem
/-! ### what holds behind -/
def ok {α : Type} (r : Res α) (P : α → Hv → Prop) : Prop := match r with
  | .ok v h => P v h
  | _ => False
@[simp] theorem ok_ok {α : Type} (v : α) (h : Hv) (P : α → Hv → Prop) : ok (.ok v h) P = P v h := rfl
@[simp] theorem ok_fail {α : Type} (P : α → Hv → Prop) : ok (.fail : Res α) P = False := rfl
@[simp] theorem ok_exc {α : Type} (e : Ex) (h : Hv) (P : α → Hv → Prop) : ok (.exc e h : Res α) P = False := rfl
@[simp] theorem ok_bind {α β : Type} (r : Res α) (k : α → Hv → Res β) (P : β → Hv → Prop) : ok (r.bind k) P = ok r fun v h => ok (k v h) P := by
  cases r <;> rfl
theorem ok_imp {α : Type} {r : Res α} {P Q : α → Hv → Prop} (h : ok r P) (i : ∀ v h, P v h → Q v h) : ok r Q := by
  cases r with
  | ok v h1 => exact i _ _ h
  | exc e h1 => exact h
  | fail => exact h
theorem ok_eq {α : Type} {r : Res α} {P : α → Hv → Prop} (h : ok r P) : ∃ v h', r = .ok v h' ∧ P v h' := by
  cases r with
  | ok v h1 => exact ⟨v, h1, rfl, h⟩
  | exc e h1 => exact h.elim
  | fail => exact h.elim
theorem ok_ite {α : Type} {c : Prop} [Decidable c] {a b : Res α} {P : α → Hv → Prop} : ok (if c then a else b) P ↔ (c → ok a P) ∧ (¬c → ok b P) := by
  by_cases h : c <;> simp [h]
structure Post where
  nx : Loc → Hv → Prop := fun _ _ => False
  rt : Val → Hv → Prop := fun _ _ => False
  bk : Loc → Hv → Prop := fun _ _ => False
  ct : Loc → Hv → Prop := fun _ _ => False
def sok (r : SRes) (P : Post) : Prop := match r with
  | .nx l h => P.nx l h
  | .rt v h => P.rt v h
  | .bk l h => P.bk l h
  | .ct l h => P.ct l h
  | _ => False
@[simp] theorem sok_nx (l : Loc) (h : Hv) (P : Post) : sok (.nx l h) P = P.nx l h := rfl
@[simp] theorem sok_rt (v : Val) (h : Hv) (P : Post) : sok (.rt v h) P = P.rt v h := rfl
@[simp] theorem sok_bk (l : Loc) (h : Hv) (P : Post) : sok (.bk l h) P = P.bk l h := rfl
@[simp] theorem sok_ct (l : Loc) (h : Hv) (P : Post) : sok (.ct l h) P = P.ct l h := rfl
@[simp] theorem sok_fail (P : Post) : sok .fail P = False := rfl
@[simp] theorem sok_exc (e : Ex) (l : Loc) (h : Hv) (P : Post) : sok (.exc e l h) P = False := rfl
@[simp] theorem sok_to {α : Type} (r : Res α) (l : Loc) (k : α → Hv → SRes) (P : Post) : sok (r.to l k) P = ok r fun v h => sok (k v h) P := by
  cases r <;> rfl
@[simp] theorem sok_then (r : SRes) (k : Stm) (P : Post) : sok (r.andThen k) P = sok r { P with nx := fun l h => sok (k l h) P } := by
  cases r <;> rfl
@[simp] theorem sok_turn (r : SRes) (k : Stm) (P : Post) : sok (r.turn k) P = sok r { P with nx := fun l h => sok (k l h) P, ct := fun l h => sok (k l h) P, bk := P.nx } := by
  cases r <;> rfl
theorem sok_ite {c : Prop} [Decidable c] {a b : SRes} {P : Post} : sok (if c then a else b) P ↔ (c → sok a P) ∧ (¬c → sok b P) := by
  by_cases h : c <;> simp [h]
theorem sok_imp {r : SRes} {P Q : Post} (h : sok r P) (n : ∀ l h, P.nx l h → Q.nx l h) (t : ∀ v h, P.rt v h → Q.rt v h) (b : ∀ l h, P.bk l h → Q.bk l h) (c : ∀ l h, P.ct l h → Q.ct l h) : sok r Q := by
  cases r with
  | nx l h1 => exact n _ _ h
  | rt v h1 => exact t _ _ h
  | bk l h1 => exact b _ _ h
  | ct l h1 => exact c _ _ h
  | exc e l h1 => exact h.elim
  | fail => exact h.elim
@[simp] theorem ok_run (n : Nat) (b : Stm) (args : List Val) (h : Hv) (P : Val → Hv → Prop) : ok (runDef n b args h) P = sok (b (args.map some ++ List.replicate (n - args.length) none) h) { nx := fun _ h => P .non h, rt := P } := by
  unfold runDef
  cases b (args.map some ++ List.replicate (n - args.length) none) h <;> rfl
def tok (r : TRes) (P : Loc → Hv → Prop) : Prop := match r with
  | .ok l h => P l h
  | _ => False
@[simp] theorem sok_s (r : TRes) (P : Post) : sok r.s P = tok r P.nx := by cases r <;> rfl
@[simp] theorem tok_ok (l : Loc) (h : Hv) (P : Loc → Hv → Prop) : tok (.ok l h) P = P l h := rfl
@[simp] theorem tok_fail (P : Loc → Hv → Prop) : tok .fail P = False := rfl
@[simp] theorem tok_toT {α : Type} (r : Res α) (l : Loc) (k : α → Hv → TRes) (P : Loc → Hv → Prop) : tok (r.toT l k) P = ok r fun v h => tok (k v h) P := by cases r <;> rfl
@[simp] theorem tok_bind (r : TRes) (k : Loc → Hv → TRes) (P : Loc → Hv → Prop) : tok (r.bind k) P = tok r fun l h => tok (k l h) P := by cases r <;> rfl

/-! ### the combinators, read at a state -/
section
variable (l : Loc) (h : Hv)
@[simp] theorem e_seq (a b : Stm) : sSeq a b l h = (a l h).andThen b := rfl
@[simp] theorem e_next : sNext l h = .nx l h := rfl
@[simp] theorem e_ret (d : Den) : sRet d l h = (d l h).to l .rt := rfl
@[simp] theorem e_retN : sRetN l h = .rt .non h := rfl
@[simp] theorem e_expr (d : Den) : sExpr d l h = (d l h).to l fun _ h1 => .nx l h1 := rfl
@[simp] theorem e_if (c : DenG Bool) (a b : Stm) : sIf c a b l h = (c l h).to l fun t h1 => if t then a l h1 else b l h1 := rfl
@[simp] theorem e_break : sBreak l h = .bk l h := rfl
@[simp] theorem e_cont : sCont l h = .ct l h := rfl
@[simp] theorem e_asg (d : Den) (t : Tg) : sAsg d t l h = (d l h).to l fun v h1 => (t v l h1).s := rfl
@[simp] theorem e_name (i : Nat) (v : Val) : gName i v l h = .ok (l.set i (some v)) h := rfl
@[simp] theorem e_for (di : DenG Src) (t : Tg) (b : Stm) : sFor di t b l h = (di l h).to l fun s h1 => forL t b s s.1 l h1 := rfl
@[simp] theorem e_c (v : Val) : dC v l h = .ok v h := rfl
@[simp] theorem e_nil : dNil l h = .ok [] h := rfl
@[simp] theorem e_cons (d : Den) (r : DenG (List Val)) : dCons d r l h = (d l h).bind fun v h1 => (r l h1).bind fun vs h2 => .ok (v :: vs) h2 := rfl
@[simp] theorem e_tup (r : DenG (List Val)) : dTup r l h = (r l h).bind mkTup := rfl
@[simp] theorem e_lst (r : DenG (List Val)) : dLst r l h = (r l h).bind mkLst := rfl
@[simp] theorem e_lstM (r : DenG (List Val)) : dLstM r l h = (r l h).bind mkRef := rfl
@[simp] theorem e_bin (f : Val → Val → Hv → Res Val) (a b : Den) : dBin f a b l h = (a l h).bind fun v h1 => (b l h1).bind fun u h2 => f v u h2 := rfl
@[simp] theorem e_b (d : Den) : dB d l h = resB (d l h) := rfl
@[simp] theorem e_and (a b : DenG Bool) : dAnd a b l h = (a l h).bind fun c h1 => if c then b l h1 else .ok false h1 := rfl
@[simp] theorem e_or (a b : DenG Bool) : dOr a b l h = (a l h).bind fun c h1 => if c then .ok true h1 else b l h1 := rfl
@[simp] theorem e_not (a : DenG Bool) : dNot a l h = (a l h).bind fun c h1 => .ok (!c) h1 := rfl
@[simp] theorem e_dif (c : DenG Bool) (a b : Den) : dIf c a b l h = (c l h).bind fun t h1 => if t then a l h1 else b l h1 := rfl
@[simp] theorem e_call (D : DF) (r : DenG (List Val)) : dCall D r l h = (r l h).bind fun vs h1 => D vs h1 := rfl
@[simp] theorem e_fn (f : Val → Hv → Res Val) (d : Den) : dFn f d l h = (d l h).bind f := rfl
@[simp] theorem e_len (d : Den) : dLen d l h = (d l h).bind vLen := rfl
@[simp] theorem e_tru (d : Den) : dTru d l h = (d l h).bind vTru := rfl
@[simp] theorem e_iseq (d : Den) : iSeq d l h = (d l h).bind vIter := rfl
@[simp] theorem e_rng1 (d : Den) : iRange1 d l h = (d l h).bind vRange1 := rfl
@[simp] theorem e_rng2 (a b : Den) : iRange2 a b l h = (a l h).bind fun v h1 => (b l h1).bind fun u h2 => vRange2 v u h2 := rfl
@[simp] theorem e_enum (d : Den) : iEnumG d l h = (d l h).bind vEnum := rfl
@[simp] theorem e_yes : dYes l h = .ok true h := rfl
@[simp] theorem e_cut (d : Den) (lo hi : DO) : dCut d lo hi l h = (d l h).bind fun v h1 => (lo l h1).bind fun a h2 => (hi l h2).bind fun b h3 => vCut v a b h3 := rfl
@[simp] theorem e_onone : oNone l h = .ok none h := rfl
@[simp] theorem e_newd : dNewD l h = .ok (.ref h.length) (h ++ [.dic []]) := rfl
@[simp] theorem e_meth1 (p : Hv → Val → Bool) (f : Val → Val → Hv → Res Val) (o e : Den) : dMeth1 p f o e l h = (o l h).bind fun x h1 => if p h1 x = true then (e l h1).bind fun v h2 => f x v h2 else .fail := rfl
@[simp] theorem e_meth0 (p : Hv → Val → Bool) (f : Val → Hv → Res Val) (o : Den) : dMeth0 p f o l h = (o l h).bind fun x h1 => if p h1 x = true then f x h1 else .fail := rfl
@[simp] theorem e_sub (o i : Den) (v : Val) : gSub o i v l h = (o l h).toT l fun x h1 => (i l h1).toT l fun y h2 => match vSet x y v h2 with
  | some h3 => .ok l h3
  | none => .fail := rfl
end
/-- one statement, what holds behind it, the rest -/
theorem sok_seq {a b : Stm} {l : Loc} {h : Hv} {P : Post} (R : Loc → Hv → Prop) (h1 : sok (a l h) { P with nx := R }) (h2 : ∀ l h, R l h → sok (b l h) P) : sok (sSeq a b l h) P := by
  rw [e_seq, sok_then]
  exact sok_imp h1 (fun l h r => h2 l h r) (fun _ _ z => z) (fun _ _ z => z) (fun _ _ z => z)
theorem ok_resB {r : Res Val} {P : Bool → Hv → Prop} (k : ok r fun v h => ∃ b, v = .bl b ∧ P b h) : ok (resB r) P := by
  cases r with
  | ok v h =>
    obtain ⟨b, rfl, p⟩ := k
    exact p
  | exc e h => exact k.elim
  | fail => exact k.elim
@[simp] theorem resB_bl (b : Bool) (h : Hv) : resB (.ok (.bl b) h) = .ok b h := rfl
@[simp] theorem vTru_bl (b : Bool) (h : Hv) : vTru (.bl b) h = .ok b h := rfl
@[simp] theorem ok_resB_eq {r : Res Val} {P : Bool → Hv → Prop} : ok (resB r) P = ok r fun v h => match v with
  | .bl b => P b h
  | _ => False := by
  cases r with
  | ok v h => cases v <;> rfl
  | exc e h => rfl
  | fail => rfl
/-- a loop over items, an invariant over what is left -/
theorem forL_inv {t : Tg} {b : Stm} {s : Src} {P : Post} (I : List Val → Loc → Hv → Prop)
    (step : ∀ x r l h, I (x :: r) l h → srcOk s h ∧ tok (t x l h) fun l1 h1 => sok (b l1 h1) { nx := fun l2 h2 => I r l2 h2, ct := fun l2 h2 => I r l2 h2, bk := P.nx, rt := P.rt })
    (done : ∀ l h, I [] l h → srcOk s h ∧ P.nx l h) : ∀ (items : List Val) (l : Loc) (h : Hv), I items l h → sok (forL t b s items l h) P
  | [], l, h, i => by
    obtain ⟨a, q⟩ := done l h i
    simp only [forL, if_pos a, sok_nx]
    exact q
  | x :: r, l, h, i => by
    obtain ⟨a, q⟩ := step x r l h i
    simp only [forL, if_pos a]
    cases e : t x l h with
    | ok l1 h1 =>
      rw [e] at q
      simp only [tok_ok] at q
      simp only [sok_turn]
      exact sok_imp q (fun l2 h2 i2 => forL_inv I step done r l2 h2 i2) (fun _ _ z => z) (fun _ _ z => z) (fun l2 h2 i2 => forL_inv I step done r l2 h2 i2)
    | exc x1 l1 h1 => rw [e] at q; exact q.elim
    | fail => rw [e] at q; exact q.elim
/-- a comprehension's items, an invariant -/
theorem lcL_inv {t : Tg} {c : DenG Bool} {e : Den} {s : Src} {P : List Val → Hv → Prop} (I : List Val → List Val → Hv → Prop) {l : Loc}
    (step : ∀ x r acc h, I (x :: r) acc h → srcOk s h ∧ tok (t x l h) fun l1 h1 => ok (c l1 h1) fun b h2 => if b then ok (e l1 h2) fun v h3 => I r (acc ++ [v]) h3 else I r acc h2)
    (done : ∀ acc h, I [] acc h → srcOk s h ∧ P acc h) : ∀ (items acc : List Val) (h : Hv), I items acc h → ok (lcL t c e s items acc l h) P
  | [], acc, h, i => by
    obtain ⟨a, q⟩ := done acc h i
    simp only [lcL, if_pos a, ok_ok]
    exact q
  | x :: r, acc, h, i => by
    obtain ⟨a, q⟩ := step x r acc h i
    simp only [lcL, if_pos a]
    cases et : t x l h with
    | ok l1 h1 =>
      rw [et] at q
      simp only [tok_ok] at q
      dsimp only
      cases ec : c l1 h1 with
      | ok b h2 =>
        rw [ec] at q
        simp only [ok_ok] at q
        dsimp only
        cases b with
        | true =>
          simp only [if_true] at q ⊢
          cases ee : e l1 h2 with
          | ok v h3 =>
            rw [ee] at q
            exact lcL_inv I step done r (acc ++ [v]) h3 q
          | exc x1 h3 => rw [ee] at q; exact q.elim
          | fail => rw [ee] at q; exact q.elim
        | false => exact lcL_inv I step done r acc h2 (by simpa using q)
      | exc x1 h2 => rw [ec] at q; exact q.elim
      | fail => rw [ec] at q; exact q.elim
    | exc x1 l1 h1 => rw [et] at q; exact q.elim
    | fail => rw [et] at q; exact q.elim
@[simp] theorem ok_dLc {fin : List Val → Hv → Res Val} {vs : List Nat} {di : DenG Src} {t : Tg} {c : DenG Bool} {e : Den} {l : Loc} {h : Hv} {P : Val → Hv → Prop} :
    ok (dLc fin vs di t c e l h) P = ok (di l h) fun s h1 => ok (lcL t c e s s.1 [] (wipeL l vs) h1) fun ys h2 => ok (fin ys h2) P := by
  simp only [dLc, ok_bind]
@[simp] theorem ok_frozen (ys : List Val) (h : Hv) (P : Val → Hv → Prop) : ok (frozen ys h) P = P (.lst ys) h := rfl
@[simp] theorem ok_ours (ys : List Val) (h : Hv) (P : Val → Hv → Prop) : ok (ours ys h) P = P (.ref h.length) (h ++ [.lst ys]) := rfl
/-- a comprehension that draws nothing: map and filter -/
theorem lc_pure {t : Tg} {c : DenG Bool} {e : Den} {s : Src} {l : Loc} {h : Hv} {P : List Val → Hv → Prop} (f : Val → Bool) (g : Val → Val) (hs : srcOk s h)
    (step : ∀ x ∈ s.1, tok (t x l h) fun l1 h1 => h1 = h ∧ c l1 h = .ok (f x) h ∧ (f x = true → e l1 h = .ok (g x) h)) (done : P ((s.1.filter f).map g) h) : ok (lcL t c e s s.1 [] l h) P := by
  have gen : ∀ (items acc : List Val), (∀ x ∈ items, x ∈ s.1) → ok (lcL t c e s items acc l h) fun ys h2 => h2 = h ∧ ys = acc ++ (items.filter f).map g := by
    intro items
    induction items with
    | nil => intro acc _; simp only [lcL, if_pos hs, ok_ok]; simp
    | cons x r ih =>
      intro acc hm
      have q := step x (hm x (List.mem_cons_self ..))
      simp only [lcL, if_pos hs]
      cases et : t x l h with
      | ok l1 h1 =>
        rw [et] at q
        obtain ⟨rfl, q1, q2⟩ := q
        dsimp only
        rw [q1]
        dsimp only
        cases ef : f x with
        | true =>
          simp only [if_true]
          rw [q2 ef]
          dsimp only
          refine ok_imp (ih (acc ++ [g x]) fun y hy => hm y (List.mem_cons_of_mem _ hy)) fun v h2 z => ⟨z.1, ?_⟩
          rw [z.2]; simp [ef]
        | false =>
          refine ok_imp (ih acc fun y hy => hm y (List.mem_cons_of_mem _ hy)) fun v h2 z => ⟨z.1, ?_⟩
          rw [z.2]; simp [ef]
      | exc x1 l1 h1 => rw [et] at q; exact q.elim
      | fail => rw [et] at q; exact q.elim
  refine ok_imp (gen s.1 [] fun x hx => hx) fun v h2 z => ?_
  obtain ⟨rfl, rfl⟩ := z
  simpa using done

/-! ### tidy -/
theorem frzs_self {f : Nat → Option Val} : ∀ {v : Val}, okV v = true → frz f v = some v := by
  intro v
  exact Val.rec (motive_1 := fun v => okV v = true → frz f v = some v) (motive_2 := fun l => okVs l = true → frzs f l = some l)
    (fun _ => rfl) (fun _ _ => rfl) (fun _ _ => rfl) (fun _ _ => rfl)
    (fun l ih o => by simp only [okV] at o; simp only [frz, ih o, Option.map_some])
    (fun l ih o => by simp only [okV] at o; simp only [frz, ih o, Option.map_some])
    (fun l ih o => by simp only [okV] at o; simp only [frz, ih o, Option.map_some])
    (fun i o => by cases o)
    (fun _ => rfl) (fun v l i1 i2 o => by
      simp only [okVs, Bool.and_eq_true] at o
      simp only [frzs, i1 o.1, i2 o.2, Option.bind_some, Option.map_some]) v
theorem frzs_list {f : Nat → Option Val} : ∀ {l : List Val}, okVs l = true → frzs f l = some l
  | [], _ => rfl
  | v :: l, o => by
    simp only [okVs, Bool.and_eq_true] at o
    simp only [frzs, frzs_self o.1, frzs_list o.2, Option.bind_some, Option.map_some]
theorem kept_app (h g : Hv) : kept h.length h (h ++ g) := ⟨by simp, fun i hi => .inl (List.getElem?_append_left hi)⟩
theorem tidy_app {r : Res Val} {h : Hv} {P : Val → Hv → Prop} (k : ok r fun v h' => (∃ g, h' = h ++ g) ∧ okV v = true ∧ P v h) : ok (tidy r h) P := by
  obtain ⟨v, h', rfl, ⟨g, rfl⟩, o, p⟩ := ok_eq k
  unfold tidy
  dsimp only
  rw [if_pos (kept_app h g), frzs_self o]
  simpa using p
theorem tidy_lst {r : Res Val} {h : Hv} {P : Val → Hv → Prop} (k : ok r fun v h' => ∃ g i l, h' = h ++ g ∧ v = .ref i ∧ h.length ≤ i ∧ h'[i]? = some (.lst l) ∧ okVs l = true ∧ P (.lst l) h) : ok (tidy r h) P := by
  obtain ⟨v, h', rfl, g, i, l, rfl, rfl, hi, hl, o, p⟩ := ok_eq k
  unfold tidy
  dsimp only
  rw [if_pos (kept_app h g)]
  have : frz (frzN (h ++ g) h.length (h ++ g).length) (.ref i) = some (.lst l) := by
    have hn : (h ++ g).length = ((h ++ g).length - 1) + 1 := by
      have := (List.getElem?_eq_some_iff.mp hl).1
      omega
    rw [hn]
    simp only [frz, frzN]
    rw [if_neg (by omega), hl]
    simp only [frzs_list o, Option.map_some]
  rw [this]
  simpa using p
end GH
set_option Elab.async false
set_option linter.all false
set_option maxRecDepth 100000
set_option maxHeartbeats 1000000
set_option autoImplicit false
/-! Values compared; the tape. -/
namespace GH
open PySem
theorem nrfl {α : Type} {a b : α} (h : a = b) : a = b := h
abbrev sv (s : List Nat) : Val := .str s
/-- a tuple of ints -/
abbrev pv (p : List Int) : Val := .tup (p.map .int)
theorem okVs_ints (p : List Int) : okVs (p.map .int) = true := by
  induction p with
  | nil => rfl
  | cons a p ih => simp only [List.map_cons, okVs, okV, ih, Bool.and_self]
theorem dpVs_ints (p : List Int) : dpVs (p.map .int) = 0 := by
  induction p with
  | nil => rfl
  | cons a p ih => simp only [List.map_cons, dpVs, dpV, ih]; rfl
@[simp] theorem okV_pv (p : List Int) : okV (pv p) = true := by simp only [okV, okVs_ints]
@[simp] theorem dpV_pv (p : List Int) : dpV (pv p) = 1 := by simp only [dpV, dpVs_ints]
theorem eqv_ints : ∀ p q : List Int, PyData.eqvAll (pds (p.map .int)) (pds (q.map .int)) = decide (p = q)
  | [], [] => rfl
  | [], _ :: _ => rfl
  | _ :: _, [] => rfl
  | a :: p, b :: q => by
    simp only [List.map_cons, pds, pd, PyData.eqvAll, PyData.eqv, eqv_ints p q]
    by_cases h1 : a = b <;> by_cases h2 : p = q <;> simp [h1, h2]
@[simp] theorem veq_pv (p q : List Int) : veq (pv p) (pv q) = decide (p = q) := by
  simp only [veq, pd, PyData.eqv, eqv_ints]
@[simp] theorem veq_str (a b : List Nat) : veq (.str a) (.str b) = decide (a = b) := by
  simp only [veq, pd, PyData.eqv]
  by_cases h : a = b
  · subst h; simp
  · have : sOf a ≠ sOf b := fun e => h (sOf_inj e)
    simp [h, this]
@[simp] theorem veq_int (a b : Int) : veq (.int a) (.int b) = decide (a = b) := by
  simp only [veq, pd, PyData.eqv]
  by_cases h : a = b <;> simp [h]
@[simp] theorem veq_bl (a b : Bool) : veq (.bl a) (.bl b) = decide (a = b) := by
  simp only [veq, pd, PyData.eqv]
  cases a <;> cases b <;> rfl
theorem okVs_pvs (s : List (List Int)) : okVs (s.map pv) = true := by
  induction s with
  | nil => rfl
  | cons a p ih => simp only [List.map_cons, okVs, okV_pv, ih, Bool.and_self]
theorem dpVs_pvs (s : List (List Int)) : dpVs (s.map pv) ≤ 1 := by
  induction s with
  | nil => exact Nat.zero_le _
  | cons a p ih => simp only [List.map_cons, dpVs, dpV_pv]; omega
/-- a tuple, a list of tuples of ints -/
abbrev tv (s : List (List Int)) : Val := .tup (s.map pv)
theorem okVs_append {a b : List Val} : okVs (a ++ b) = (okVs a && okVs b) := by
  induction a with
  | nil => simp [okVs]
  | cons x a ih => simp only [List.cons_append, okVs, ih, Bool.and_assoc]
@[simp] theorem okV_tv (s : List (List Int)) : okV (tv s) = true := by simp only [okV, okVs_pvs]
theorem inSeq_pv (p : List Int) (s : List (List Int)) : inSeq (pv p) (s.map pv) = decide (p ∈ s) := by
  unfold inSeq
  induction s with
  | nil => rfl
  | cons a s ih =>
    simp only [List.map_cons, List.any_cons, ih, veq_pv]
    by_cases h1 : a = p <;> by_cases h2 : p ∈ s <;> simp [h1, h2, eq_comm]
    intro e; exact absurd e.symm h1
theorem inOk_pv (p : List Int) (s : List (List Int)) : inOk (pv p) (s.map pv) = true := by
  have := dpVs_pvs s
  simp only [inOk, okV_pv, okVs_pvs, Bool.and_self, Bool.true_and, decide_eq_true_eq]
  omega
@[simp] theorem vIn_pv (p : List Int) (s : List (List Int)) (h : Hv) : vIn (pv p) (tv s) h = .ok (.bl (decide (p ∈ s))) h := by
  simp only [vIn, isIn, seqOf, thaw, inOk_pv, if_true, inSeq_pv, Res.bind_ok]
@[simp] theorem vNotIn_pv (p : List Int) (s : List (List Int)) (h : Hv) : vNotIn (pv p) (tv s) h = .ok (.bl (!decide (p ∈ s))) h := by
  simp only [vNotIn, isIn, seqOf, thaw, inOk_pv, if_true, inSeq_pv, Res.bind_ok]
@[simp] theorem vEq_pv (p q : List Int) (h : Hv) : vEq (pv p) (pv q) h = .ok (.bl (decide (p = q))) h := by
  simp [vEq, thaw, eqOk]
@[simp] theorem vEq_str (a b : List Nat) (h : Hv) : vEq (.str a) (.str b) h = .ok (.bl (decide (a = b))) h := nrfl rfl
@[simp] theorem vEq_int (a b : Int) (h : Hv) : vEq (.int a) (.int b) h = .ok (.bl (decide (a = b))) h := nrfl rfl
@[simp] theorem vEq_bl (a b : Bool) (h : Hv) : vEq (.bl a) (.bl b) h = .ok (.bl (decide (a = b))) h := by
  simp [vEq, thaw, eqOk, okV, dpV]
@[simp] theorem vAdd_int (a b : Int) (h : Hv) : vAdd (.int a) (.int b) h = .ok (.int (a + b)) h := nrfl rfl
@[simp] theorem vSub_int (a b : Int) (h : Hv) : vSub (.int a) (.int b) h = .ok (.int (a - b)) h := nrfl rfl
@[simp] theorem vLt_int (a b : Int) (h : Hv) : vLt (.int a) (.int b) h = .ok (.bl (decide (a < b))) h := nrfl rfl
@[simp] theorem vGt_int (a b : Int) (h : Hv) : vGt (.int a) (.int b) h = .ok (.bl (decide (b < a))) h := nrfl rfl
@[simp] theorem vLe_int (a b : Int) (h : Hv) : vLe (.int a) (.int b) h = .ok (.bl (decide (a ≤ b))) h := nrfl rfl
@[simp] theorem vGe_int (a b : Int) (h : Hv) : vGe (.int a) (.int b) h = .ok (.bl (decide (b ≤ a))) h := nrfl rfl
@[simp] theorem vInt_int (a : Int) (h : Hv) : vInt (.int a) h = .ok (.int a) h := nrfl rfl
@[simp] theorem vAbs_int (a : Int) (h : Hv) : vAbs (.int a) h = .ok (.int (if a < 0 then -a else a)) h := nrfl rfl
@[simp] theorem vLen_tup (l : List Val) (h : Hv) : vLen (.tup l) h = .ok (.int l.length) h := nrfl rfl
@[simp] theorem vLen_lst (l : List Val) (h : Hv) : vLen (.lst l) h = .ok (.int l.length) h := nrfl rfl
@[simp] theorem vIter_lst (l : List Val) (h : Hv) : vIter (.lst l) h = .ok (l, none) h := nrfl rfl
@[simp] theorem vIter_tup (l : List Val) (h : Hv) : vIter (.tup l) h = .ok (l, none) h := nrfl rfl
@[simp] theorem vIter_fz (l : List Val) (h : Hv) : vIter (.fz l) h = .ok (l, none) h := nrfl rfl
@[simp] theorem srcOk_none (l : List Val) (h : Hv) : srcOk (l, none) h := trivial
theorem vMod_ok {a b : Int} (h : Hv) (hb : 0 < b) : vMod (.int a) (.int b) h = .ok (.int (a % b)) h := by simp [vMod, hb]
theorem vDiv_ok {a b : Int} (h : Hv) (hb : 0 < b) (h2 : b < 1073741824) : vDiv (.int a) (.int b) h = .ok (.int (a / b)) h := by simp [vDiv, hb, h2]
theorem vIx_tup {l : List Val} {i : Int} {v : Val} {h : Hv} (e : nth l i = some v) : vIx (.tup l) (.int i) h = .ok v h := by simp [vIx, seqOf, e]
theorem vIx_lst {l : List Val} {i : Int} {v : Val} {h : Hv} (e : nth l i = some v) : vIx (.lst l) (.int i) h = .ok v h := by simp [vIx, seqOf, lstOf, e]
theorem vIx_dic {i : Nat} {d : List (Val × Val)} {s : List Nat} {v : Val} {h : Hv} (e : h[i]? = some (.dic d)) (g : dGet d (.str s) = some v) : vIx (.ref i) (.str s) h = .ok v h := by
  simp [vIx, seqOf, lstOf, dicOf, e, keyOf, g]
theorem nth_of {α : Type} {l : List α} {i : Int} (h0 : 0 ≤ i) (h1 : i < l.length) : ∃ v, nth l i = some v ∧ v ∈ l := by
  have hi : i.toNat < l.length := by omega
  exact ⟨l[i.toNat], by simp [nth, h0, hi], List.getElem_mem hi⟩

/-! ### the tape -/
structure Tape where
  cells : List Int
  at_ : Int
  left : Int
  seed : Int
  salt : Int
def kCells : List Nat := [99, 101, 108, 108, 115]
def Tape.dic (t : Tape) : List (Val × Val) := [(.str [99, 101, 108, 108, 115], .lst (t.cells.map .int)), (.str [97, 116], .int t.at_), (.str [108, 101, 102, 116], .int t.left), (.str [115, 101, 101, 100], .int t.seed), (.str [115, 97, 108, 116], .int t.salt)]
/-- a tape as an object -/
def TapeOb (o : Ob) : Prop := ∃ t : Tape, 0 ≤ t.at_ ∧ o = .dic t.dic
noncomputable def bTake : Stm := (sSeq (sIf (dAnd (dB (dBin vEq (dBin vIx (dVar 0) (dC (.str [108, 101, 102, 116]))) (dC (.int 0)))) (dB (dBin vLt (dBin vIx (dVar 0) (dC (.str [97, 116]))) (dLen (dBin vIx (dVar 0) (dC (.str [99, 101, 108, 108, 115]))))))) (sSeq (sAsg (dBin vIx (dBin vIx (dVar 0) (dC (.str [99, 101, 108, 108, 115]))) (dBin vIx (dVar 0) (dC (.str [97, 116])))) (gSub (dVar 0) (dC (.str [108, 101, 102, 116]))))
    (sSeq (sAsg (dBin vAdd (dBin vIx (dVar 0) (dC (.str [97, 116]))) (dC (.int 1))) (gSub (dVar 0) (dC (.str [97, 116]))))
    sNext)) sNext)
    (sSeq (sIf (dB (dBin vGt (dBin vIx (dVar 0) (dC (.str [108, 101, 102, 116]))) (dC (.int 0)))) (sSeq (sAsg (dBin vMod (dFn vInt (dBin vIx (dVar 0) (dC (.str [108, 101, 102, 116])))) (dVar 1)) (gName 3))
    (sSeq (sAsg (dBin vDiv (dBin vIx (dVar 0) (dC (.str [108, 101, 102, 116]))) (dVar 1)) (gSub (dVar 0) (dC (.str [108, 101, 102, 116]))))
    (sSeq (sRet (dVar 3))
    sNext))) sNext)
    (sSeq (sAsg (dBin vAdd (dBin vIx (dVar 0) (dC (.str [115, 97, 108, 116]))) (dC (.int 1))) (gSub (dVar 0) (dC (.str [115, 97, 108, 116]))))
    (sSeq (sAsg (dBin vMod (dFn vInt (dBin vAdd (dBin vMul (dBin vIx (dVar 0) (dC (.str [115, 101, 101, 100]))) (dC (.int 48271))) (dBin vMul (dBin vIx (dVar 0) (dC (.str [115, 97, 108, 116]))) (dC (.int 69621))))) (dC (.int 2147483647))) (gName 2))
    (sSeq (sAsg (dBin vMod (dFn vInt (dBin vAdd (dBin vAdd (dBin vMul (dVar 2) (dVar 2)) (dBin vMul (dBin vIx (dVar 0) (dC (.str [115, 97, 108, 116]))) (dC (.int 40692)))) (dC (.int 12345)))) (dC (.int 2147483399))) (gName 2))
    (sSeq (sRet (dBin vMod (dFn vInt (dVar 2)) (dVar 1)))
    sNext))))))
noncomputable def bTape : Stm := (sSeq (sAsg (dLc frozen [3] (iSeq (dVar 0)) (gName 3) dYes (dFn vAbs (dFn vInt (dVar 3)))) (gName 1))
    (sSeq (sAsg (dC (.int 7)) (gName 2))
    (sSeq (sFor (iSeq (dVar 1)) (gName 3) (sSeq (sAsg (dBin vMod (dFn vInt (dBin vAdd (dBin vMul (dVar 2) (dC (.int 31))) (dVar 3))) (dC (.int 2147483647))) (gName 2))
    sNext))
    (sSeq (sRet (dDisp (((dC (.str [99, 101, 108, 108, 115])), (dVar 1)) :: (((dC (.str [97, 116])), (dC (.int 0))) :: (((dC (.str [108, 101, 102, 116])), (dC (.int 0))) :: (((dC (.str [115, 101, 101, 100])), (dVar 2)) :: (((dC (.str [115, 97, 108, 116])), (dC (.int 0))) :: [])))))))
    sNext))))
section
variable (t : Tape) (g : Hv)
@[simp] theorem tp_cells : vIx (.ref 0) (.str [99, 101, 108, 108, 115]) (.dic t.dic :: g) = .ok (.lst (t.cells.map .int)) (.dic t.dic :: g) := nrfl rfl
@[simp] theorem tp_at : vIx (.ref 0) (.str [97, 116]) (.dic t.dic :: g) = .ok (.int t.at_) (.dic t.dic :: g) := nrfl rfl
@[simp] theorem tp_left : vIx (.ref 0) (.str [108, 101, 102, 116]) (.dic t.dic :: g) = .ok (.int t.left) (.dic t.dic :: g) := nrfl rfl
@[simp] theorem tp_seed : vIx (.ref 0) (.str [115, 101, 101, 100]) (.dic t.dic :: g) = .ok (.int t.seed) (.dic t.dic :: g) := nrfl rfl
@[simp] theorem tp_salt : vIx (.ref 0) (.str [115, 97, 108, 116]) (.dic t.dic :: g) = .ok (.int t.salt) (.dic t.dic :: g) := nrfl rfl
@[simp] theorem ts_at (i : Int) : vSet (.ref 0) (.str [97, 116]) (.int i) (.dic t.dic :: g) = some (.dic { t with at_ := i }.dic :: g) := nrfl rfl
@[simp] theorem ts_left (i : Int) : vSet (.ref 0) (.str [108, 101, 102, 116]) (.int i) (.dic t.dic :: g) = some (.dic { t with left := i }.dic :: g) := nrfl rfl
@[simp] theorem ts_salt (i : Int) : vSet (.ref 0) (.str [115, 97, 108, 116]) (.int i) (.dic t.dic :: g) = some (.dic { t with salt := i }.dic :: g) := nrfl rfl
end
theorem big_of {a : Int} (h1 : -18446744073709551616 < a) (h2 : a < 18446744073709551616) : big64 a = true := by
  unfold big64
  have e : (2 : Int) ^ 64 = 18446744073709551616 := by decide
  rw [e]
  simp [h1, h2]
theorem big_mod (x : Int) : big64 (x % 2147483647) = true := by
  have q1 := Int.emod_nonneg x (show (2147483647 : Int) ≠ 0 by omega)
  have q2 := Int.emod_lt_of_pos x (show (0 : Int) < 2147483647 by omega)
  exact big_of (by omega) (by omega)
theorem big_a : big64 48271 = true := big_of (by omega) (by omega)
theorem big_b : big64 69621 = true := big_of (by omega) (by omega)
theorem big_c : big64 40692 = true := big_of (by omega) (by omega)
theorem big_d : big64 31 = true := big_of (by omega) (by omega)
theorem vMul_ok {a b : Int} (h : Hv) (hb : big64 a = true ∨ big64 b = true) : vMul (.int a) (.int b) h = .ok (.int (a * b)) h := by
  have : (big64 a || big64 b) = true := by simpa using hb
  simp [vMul, this]
theorem p1 : (0 : Int) < 2147483647 := by omega
theorem p2 : (0 : Int) < 2147483399 := by omega
theorem take_key {m : Int} {g : Hv} {P : Val → Hv → Prop} (hm : 0 < m) (hm2 : m < 1073741824) (k : ∀ r o', 0 ≤ r → r < m → TapeOb o' → P (.int r) (o' :: g)) (t : Tape) (ht : 0 ≤ t.at_) : sok ((sSeq (sIf (dB (dBin vGt (dBin vIx (dVar 0) (dC (.str [108, 101, 102, 116]))) (dC (.int 0)))) (sSeq (sAsg (dBin vMod (dFn vInt (dBin vIx (dVar 0) (dC (.str [108, 101, 102, 116])))) (dVar 1)) (gName 3))
    (sSeq (sAsg (dBin vDiv (dBin vIx (dVar 0) (dC (.str [108, 101, 102, 116]))) (dVar 1)) (gSub (dVar 0) (dC (.str [108, 101, 102, 116]))))
    (sSeq (sRet (dVar 3))
    sNext))) sNext)
    (sSeq (sAsg (dBin vAdd (dBin vIx (dVar 0) (dC (.str [115, 97, 108, 116]))) (dC (.int 1))) (gSub (dVar 0) (dC (.str [115, 97, 108, 116]))))
    (sSeq (sAsg (dBin vMod (dFn vInt (dBin vAdd (dBin vMul (dBin vIx (dVar 0) (dC (.str [115, 101, 101, 100]))) (dC (.int 48271))) (dBin vMul (dBin vIx (dVar 0) (dC (.str [115, 97, 108, 116]))) (dC (.int 69621))))) (dC (.int 2147483647))) (gName 2))
    (sSeq (sAsg (dBin vMod (dFn vInt (dBin vAdd (dBin vAdd (dBin vMul (dVar 2) (dVar 2)) (dBin vMul (dBin vIx (dVar 0) (dC (.str [115, 97, 108, 116]))) (dC (.int 40692)))) (dC (.int 12345)))) (dC (.int 2147483399))) (gName 2))
    (sSeq (sRet (dBin vMod (dFn vInt (dVar 2)) (dVar 1)))
    sNext))))) [some (.ref 0), some (.int m), none, none] (.dic t.dic :: g)) { nx := fun _ h => P .non h, rt := P } := by
    by_cases hl : 0 < t.left
    · simp [dVar]
      simp [hl, dVar, vMod_ok _ hm, vDiv_ok _ hm hm2]
      exact k _ _ (Int.emod_nonneg _ (by omega)) (Int.emod_lt_of_pos _ hm) ⟨_, by exact ht, rfl⟩
    · refine sok_seq (fun l h => l = [some (.ref 0), some (.int m), none, none] ∧ h = .dic t.dic :: g) (by simp [hl, dVar]) ?_
      rintro l h ⟨rfl, rfl⟩
      refine sok_seq (fun l h => l = [some (.ref 0), some (.int m), none, none] ∧ ∃ t' : Tape, 0 ≤ t'.at_ ∧ h = .dic t'.dic :: g) (by simp [dVar]; exact ⟨_, by exact ht, rfl⟩) ?_
      rintro l h ⟨rfl, t, ht, rfl⟩
      refine sok_seq (fun l h => (∃ x, big64 x = true ∧ l = [some (.ref 0), some (.int m), some (.int x), none]) ∧ h = .dic t.dic :: g) ?_ ?_
      · simp [dVar, vMul_ok _ (.inr big_a), vMul_ok _ (.inr big_b), vMod_ok _ p1]
        exact big_mod _
      rintro l h ⟨⟨x, hx, rfl⟩, rfl⟩
      refine sok_seq (fun l h => (∃ x, l = [some (.ref 0), some (.int m), some (.int x), none]) ∧ h = .dic t.dic :: g) ?_ ?_
      · simp [dVar, vMul_ok _ (.inl hx), vMul_ok _ (.inr big_c), vMod_ok _ p2]
      rintro l h ⟨⟨x, rfl⟩, rfl⟩
      simp [dVar, vMod_ok _ hm]
      exact k _ _ (Int.emod_nonneg _ (by omega)) (Int.emod_lt_of_pos _ hm) ⟨_, by exact ht, rfl⟩
theorem take_sp {m : Int} {o : Ob} {g : Hv} {P : Val → Hv → Prop} (hm : 0 < m) (hm2 : m < 1073741824) (ho : TapeOb o)
    (k : ∀ r o', 0 ≤ r → r < m → TapeOb o' → P (.int r) (o' :: g)) : ok (runDef 4 bTake [.ref 0, .int m] (o :: g)) P := by
  obtain ⟨t, ht, rfl⟩ := ho
  rw [ok_run]
  refine sok_seq (fun l h => l = [some (.ref 0), some (.int m), none, none] ∧ ∃ t' : Tape, 0 ≤ t'.at_ ∧ h = .dic t'.dic :: g) ?_ (fun l h ⟨e1, t', h1, e2⟩ => by subst e1 e2; exact take_key hm hm2 k t' h1)
  simp [dVar]
  by_cases hc : t.left = 0
  · by_cases h2 : t.at_ < t.cells.length
    · obtain ⟨v, e1, e2⟩ := nth_of (l := t.cells.map Val.int) ht (by simpa using h2)
      obtain ⟨c, hc', rfl⟩ := List.mem_map.mp e2
      simp [hc, h2, dVar, vIx_lst e1]
      exact ⟨{ t with left := c, at_ := t.at_ + 1 }, by show 0 ≤ t.at_ + 1; omega, rfl⟩
    · simp [hc, h2, dVar]
      exact ⟨t, ht, rfl⟩
  · simp [hc, dVar]
    exact ⟨t, ht, rfl⟩
theorem tape_sp {ns : List Int} {h : Hv} {P : Val → Hv → Prop} (k : ∀ o, TapeOb o → P (.ref h.length) (h ++ [o])) : ok (runDef 4 bTape [.fz (ns.map .int)] h) P := by
  simp only [ok_run, bTape, e_seq, sok_then]
  simp only [List.map_cons, List.map_nil, List.length_cons, List.length_nil, List.cons_append, List.nil_append, List.replicate]
  simp [dVar]
  refine lc_pure (fun _ => true) (fun v => match v with | .int i => .int (if i < 0 then -i else i) | v => v) trivial ?_ ?_
  · intro x hx
    obtain ⟨i, hi, rfl⟩ := List.mem_map.mp hx
    simp [wipeL, dVar]
  · have e : ∀ ns : List Int, (List.filter (fun _ => true) (ns.map Val.int)).map (fun v => match v with | .int i => .int (if i < 0 then -i else i) | v => v) = (ns.map fun i => if i < 0 then -i else i).map Val.int := by
      intro ns
      induction ns with
      | nil => rfl
      | cons n ns ih => simp only [List.map_cons, List.filter_cons, if_true] at ih ⊢; rw [ih]
    rw [e]
    refine forL_inv (fun items l h1 => h1 = h ∧ (∃ x y, l = [some (.fz (ns.map .int)), some (.lst ((ns.map fun i => if i < 0 then -i else i).map Val.int)), some (.int x), y]) ∧ ∀ z ∈ items, ∃ i, z = Val.int i) ?_ ?_ _ _ _ ?_
    · rintro x r l h1 ⟨rfl, ⟨s, y, rfl⟩, hz⟩
      obtain ⟨i, rfl⟩ := hz x (List.mem_cons_self ..)
      refine ⟨trivial, ?_⟩
      simp [dVar, vMul_ok _ (.inr big_d), vMod_ok _ p1]
      exact fun z hz' => hz z (List.mem_cons_of_mem _ hz')
    · rintro l h1 ⟨rfl, ⟨s, y, rfl⟩, _⟩
      refine ⟨trivial, ?_⟩
      simp [dDisp, dPairs, dVar, keyOf]
      exact k _ ⟨⟨ns.map fun i => if i < 0 then -i else i, 0, 0, s, 0⟩, Int.le_refl _, by simp [dMk, dPut, kEq, Tape.dic]⟩
    · exact ⟨rfl, ⟨7, none, rfl⟩, fun z hz => by obtain ⟨i, _, rfl⟩ := List.mem_map.mp hz; exact ⟨i, rfl⟩⟩
end GH
set_option Elab.async false
set_option linter.all false
set_option maxRecDepth 100000
set_option maxHeartbeats 1000000
set_option autoImplicit false
/-! Chained comparison; texts compared; more. -/
namespace GH
open PySem PySem.Spec PyProof.Rows L2
section
variable {X : Cx} {W : WX}
def dChain (f f' : Val → Val → Hv → Res Val) (da db dc : Den) : Den := fun l h => (da l h).bind fun v h1 => (db l h1).bind fun u h2 => (f v u h2).bind fun z h3 => match z with
  | .bl true => (dc l h3).bind fun w h4 => f' u w h4
  | .bl false => .ok (.bl false) h3
  | _ => .fail
theorem After.bind {α β γ δ : Type} {K : PySem.W.Frag} {W : WX} {rel : Gh → Hp → α → β → Prop} {rel2 : Gh → Hp → γ → δ → Prop} {σ : L2.St} {g : Gh} {H : Hp} {r : Res α} {k : α → Hv → Res γ} {Q : δ → Hp → Prop} {R : β → Hp → Prop} (A : After K W rel2 σ g H Q (r.bind k))
    (hk : ∀ v h1 g1 H1 x, Ext g H g1 H1 → HR K g1 H1 h1 → rel g1 H1 v x → After K W rel2 σ g1 H1 Q (k v h1) → R x H1) : After K W rel σ g H R r := by
  cases r with
  | ok v h1 => exact fun g' H' x E R' r => hk v h1 g' H' x E R' r (After.ext E A)
  | exc e h1 => exact A
  | fail => exact A
theorem tChain_of {f f' : Val → Val → Hv → Res Val} {da db dc : Den} {r r' : R2}
    (hr : ∀ (W : WX) (g : Gh) (H : Hp) (h : Hv) (σ : L2.St) (v u : Val) (x y : V) (Q : VK), HR X.K g H h → VR X.K g H v x → VR X.K g H u y → After X.K W (vr X.K) σ g H Q (f v u h) → r x y H Q)
    (hr' : ∀ (W : WX) (g : Gh) (H : Hp) (h : Hv) (σ : L2.St) (v u : Val) (x y : V) (Q : VK), HR X.K g H h → VR X.K g H v x → VR X.K g H u y → After X.K W (vr X.K) σ g H Q (f' v u h) → r' x y H Q)
    (σ : L2.St) (H : Hp) (Q : VK) (z : tG X.K W (vr X.K) (dChain f f' da db dc) σ H Q) : tChain r r' (tG X.K W (vr X.K) da) (tG X.K W (vr X.K) db) (tG X.K W (vr X.K) dc) σ H Q := by
  obtain ⟨g, l, h, S, R, A⟩ := z
  refine tG_of S R A fun v h1 g1 H1 x E S1 R1 r1 A1 => ?_
  refine tG_of S1 R1 A1 fun u h2 g2 H2 y E2 S2 R2 r2 A2 => ?_
  refine hr W g2 H2 h2 σ v u x y _ R2 (r1.ext R1 E2) r2 (After.bind A2 fun z h3 g3 H3 zx E3 R3 r3 A3 => ?_)
  cases z with
  | bl b =>
    have r3 : VR X.K g3 H3 (.bl b) zx := r3
    simp only [VR] at r3
    subst r3
    refine ⟨b, rfl, ?_⟩
    cases b with
    | false =>
      rw [if_neg Bool.false_ne_true]
      exact A3 g3 H3 _ Ext.refl R3 (by simp only [VR])
    | true =>
      rw [if_pos rfl]
      have S3 := S2.ext R2 E3
      refine tG_of S3 R3 A3 fun w h4 g4 H4 wx E4 S4 R4 r4 A4 => ?_
      exact hr' W g4 H4 h4 σ u w y wx Q R4 ((VR.ext R2 E3 r2).ext R3 E4) r4 A4
  | _ => exact A3.elim
theorem ge_chain {op op' : CmpOp} {f f' : Val → Val → Hv → Res Val} {a b c : Expr} {da db dc : Den} {pos : Pos} (ho : OpG X (compareOp op) f) (ho' : OpG X (compareOp op') f') (ha : GE X W a da) (hb : GE X W b db) (hc : GE X W c dc)
    (hm : lastMarks [op, op'] [b, c] = false := by with_unfolding_all rfl) : GE X W (.Compare a [op, op'] [b, c] pos) (dChain f f' da db dc) := by
  obtain ⟨r, ho, hr⟩ := ho
  obtain ⟨r', ho', hr'⟩ := ho'
  exact PE.imp (pe_chain ho ho' ha hb hc hm) fun σ H Q z => tChain_of hr hr' σ H Q z
theorem gt_chain {op op' : CmpOp} {f f' : Val → Val → Hv → Res Val} {a b c : Expr} {da db dc : Den} {pos : Pos} (ho : OpG X (compareOp op) f) (ho' : OpG X (compareOp op') f') (ha : GE X W a da) (hb : GE X W b db) (hc : GE X W c dc)
    (hm : lastMarks [op, op'] [b, c] = false := by with_unfolding_all rfl) : GT X W (.Compare a [op, op'] [b, c] pos) (dB (dChain f f' da db dc)) := by
  obtain ⟨r, ho, hr⟩ := ho
  obtain ⟨r', ho', hr'⟩ := ho'
  exact PT.imp (pt_chain ho ho' ha hb hc hm) fun σ H Q z => tChain_of (W := W) hr hr' σ H _ (tB_of z)
/-! texts -/
def vCmpS (p : Int → Int → Bool) (q : List Nat → List Nat → Bool) (v u : Val) (h : Hv) : Res Val := match v, u with
  | .int i, .int j => .ok (.bl (p i j)) h
  | .str a, .str b => .ok (.bl (q a b)) h
  | _, _ => .fail
theorem og_cmpS {op : CmpOp} {p : Int → Int → Bool} {q : List Nat → List Nat → Bool} (ho : OpR X (compareOp op) (rI0 fun i j => .bl (p i j))) {F : Str → Str → Bool} (hs : OpR X (compareOp op) (fun x y H Q => ∃ i j, x = .str i ∧ y = .str j ∧ Q (.bl (F i j)) H)) (hF : ∀ a b, F (sOf a) (sOf b) = q a b) :
    OpG X (compareOp op) (vCmpS p q) := by
  refine ⟨_, ho.or hs, fun W g H h σ v u x y Q R rv ru A => ?_⟩
  unfold vCmpS at A
  split at A
  · simp only [VR] at rv ru
    subst rv ru
    exact .inl ⟨_, _, rfl, rfl, A g H _ Ext.refl R (by simp only [VR])⟩
  · simp only [VR] at rv ru
    subst rv ru
    exact .inr ⟨_, _, rfl, rfl, A g H _ Ext.refl R (by simp only [VR]; rw [hF])⟩
  · exact A.elim
abbrev vLtS := vCmpS (fun i j => decide (i < j)) fun a b => decide (a < b)
abbrev vLeS := vCmpS (fun i j => decide (i ≤ j)) fun a b => !decide (b < a)
abbrev vGtS := vCmpS (fun i j => decide (j < i)) fun a b => decide (b < a)
abbrev vGeS := vCmpS (fun i j => decide (j ≤ i)) fun a b => !decide (a < b)
theorem og_ltS : OpG X (compareOp .Lt) vLtS := og_cmpS op_lt op_lt_str fun a b => decide_eq_decide.mpr Iff.rfl
theorem og_leS : OpG X (compareOp .LtE) vLeS := og_cmpS op_le op_le_str fun a b => congrArg (!·) (decide_eq_decide.mpr Iff.rfl)
theorem og_gtS : OpG X (compareOp .Gt) vGtS := og_cmpS op_gt op_gt_str fun a b => decide_eq_decide.mpr Iff.rfl
theorem og_geS : OpG X (compareOp .GtE) vGeS := og_cmpS op_ge op_ge_str fun a b => congrArg (!·) (decide_eq_decide.mpr Iff.rfl)
/-- an int of the top -/
theorem ge_topi {x : Str} {i : Int} {pos : Pos} (hm : ∃ t, X.mg x = some (.int i t)) (hg : Gl X x := by rfl) (hd : (x == ("__debug__" : Str)) = false := by decide +kernel) : GE X W (.Name x pos) (dC (.int i)) := by
  obtain ⟨t, hm⟩ := hm
  exact ge_top (y := .int i) hm ⟨t, rfl⟩ (fun g H => by simp only [VR]) hg hd
/-- a text of the top -/
theorem ge_tops {x z : Str} (s : List Nat) {pos : Pos} (hm : ∃ t, X.mg x = some (.str z t)) (e : z = sOf s := by decide +kernel) (hg : Gl X x := by rfl) (hd : (x == ("__debug__" : Str)) = false := by decide +kernel) : GE X W (.Name x pos) (dC (.str s)) := by
  obtain ⟨t, hm⟩ := hm
  subst e
  exact ge_top (y := .str (sOf s)) hm ⟨t, rfl⟩ (fun g H => by simp only [VR]) hg hd
end
end GH
set_option Elab.async false
set_option linter.all false
set_option maxRecDepth 100000
set_option maxHeartbeats 1000000
set_option autoImplicit false
/-! Dict comprehensions. -/
namespace GH
open PySem PySem.Spec PyProof.Rows L2
open Classical in
noncomputable def dcL (t : Tg) (c : DenG Bool) (ek e : Den) (s : Src) : List Val → List (Val × Val) → Loc → Hv → Res (List (Val × Val))
  | [], acc, _, h => if srcOk s h then .ok acc h else .fail
  | x :: r, acc, l, h => if srcOk s h then (match t x l h with
    | .ok l1 h1 => (match c l1 h1 with
      | .ok b h2 => if b = true then (match ek l1 h2 with
        | .ok k h3 => (match e l1 h3 with
          | .ok v h4 => (match keyOf k with
            | some _ => dcL t c ek e s r (dPut acc k v) l h4
            | none => .fail)
          | _ => .fail)
        | _ => .fail) else dcL t c ek e s r acc l h2
      | _ => .fail)
    | _ => .fail) else .fail
def finD (ys : List (Val × Val)) (h : Hv) : Res Val := .ok (.ref h.length) (h ++ [.dic ys])
noncomputable def dDc (vs : List Nat) (di : DenG Src) (t : Tg) (c : DenG Bool) (ek e : Den) : Den := fun l h => (di l h).bind fun s h1 => (dcL t c ek e s s.1 [] (wipeL l vs) h1).bind finD
section
variable {K : PySem.W.Frag}
theorem upd_self' {H : Hp} {D : Addr} {o : HO} (e : H D = some o) : upd H D o = H := by
  funext b
  by_cases hb : b = D
  · subst hb; rw [upd_same, e]
  · rw [upd_ne hb]
theorem finD_ok {W : WX} {σ : L2.St} {g1 g2 : Gh} {H1 H : Hp} {h h1 : Hv} {Q : VK} {D : Addr} {ys : List (Val × Val)} {xs : List (Key × V)} (nD : H1 D = none) (R1 : HR K g1 H1 h1) (E : Ext ⟨g1.m, D :: g1.r⟩ (upd H1 D (.dK [])) g2 (upd H D (.dK []))) (R2 : HR K g2 H h) (eD : H D = some (.dK xs)) (r : DR K g2 H ys xs)
    (A : After K W (vr K) σ g1 H1 Q (.ok (.ref h.length) (h ++ [.dic ys]))) : Q (.ref D) H := by
  have hD : D ∈ g2.r := by rw [E.r]; exact List.mem_cons_self ..
  have R3 := R2.reset (zs := .dK []) hD eD trivial trivial
  have q := promote (o1 := .dK xs) (ob := .dic ys) R1 nD E R3 trivial (fun hm ho => by
    refine ⟨xs, upd_same, r.1, ?_⟩
    have := r.2.own hm ho
    rw [upd_upd, upd_self' eD]
    exact this) A
  rw [upd_upd, upd_self' eD] at q
  exact q
theorem dc_red {W : WX} {vs : List Nat} {di : DenG Src} {t : Tg} {c : DenG Bool} {ek e : Den} {σ : L2.St} {H : Hp} {Q : VK} (z : tG K W (vr K) (dDc vs di t c ek e) σ H Q) :
    tDc (tI K W di) (tTc K vs t) (tG K W0 br c) (tG K W0 (vr K) ek) (tG K W0 (vr K) e) vs σ H Q := by
  obtain ⟨g, l, h, S, R, A⟩ := z
  refine ⟨g, l, h, S, R, ?_⟩
  unfold dDc at A
  unfold AfterI
  cases ed : di l h with
  | exc x h1 => rw [ed] at A; exact A
  | fail => rw [ed] at A; exact A
  | ok s h1 =>
    rw [ed] at A
    simp only [Res.bind_ok] at A
    have ok1 : srcOk s h1 := by
      cases hs1 : s.1 with
      | nil =>
        rw [hs1] at A
        simp only [dcL] at A
        split at A
        · assumption
        · exact A.elim
      | cons x r =>
        rw [hs1] at A
        simp only [dcL] at A
        split at A
        · assumption
        · exact A.elim
    refine ⟨ok1, fun g1 H1 J E1 R1 hz sv D nD => ?_⟩
    have A := After.ext E1 A
    have al : ∀ b ∈ g1.r, ∃ o, H1 b = some o := fun b hb => R1.own_there (.inr hb)
    have S1 := S.ext R E1
    -- the new list is put aside
    have ES : ExtS g1 H1 ⟨g1.m, D :: g1.r⟩ (upd H1 D (.dK [])) := ⟨⟨[], by simp, by simp⟩, ⟨[D], rfl, fun b hb => by rw [List.mem_singleton.mp hb]; exact nD⟩, fun b o e hb => by rw [upd_ne (ne_of_none e nD)]; exact e⟩
    have RD : HR K ⟨g1.m, D :: g1.r⟩ (upd H1 D (.dK [])) h1 := by
      refine ⟨R1.len, R1.nd, fun a ha z => ?_, fun a ha => ?_, fun i o a e1 e2 => ?_⟩
      · rcases List.mem_cons.mp z with z | z
        · subst z; exact R1.fresh nD (.inl ha)
        · exact R1.dis a ha z
      · rcases List.mem_cons.mp ha with z | z
        · subst z; exact ⟨_, upd_same, trivial⟩
        · obtain ⟨ob, e, mo⟩ := R1.al a z
          exact ⟨ob, by rw [upd_ne (ne_of_none e nD)]; exact e, mo⟩
      · have q := R1.obj i o a e1 e2
        cases o with
        | lst l => obtain ⟨xs, e, r⟩ := q; exact ⟨xs, by rw [upd_ne (ne_of_none e nD)]; exact e, r.extS R1 ES⟩
        | dic l => obtain ⟨xs, e, r⟩ := q; exact ⟨xs, by rw [upd_ne (ne_of_none e nD)]; exact e, r.1, r.2.extS R1 ES⟩
        | ins c f => obtain ⟨dx, gs, e, r⟩ := q; exact ⟨dx, gs, by rw [upd_ne (ne_of_none e nD)]; exact e, r.1, r.2.extS R1 ES⟩
    let Wd : Nat → Hp → Prop := fun i H => ∃ g2 h2 ys xs, H D = some (.dK xs) ∧ Ext ⟨g1.m, D :: g1.r⟩ (upd H1 D (.dK [])) g2 (upd H D (.dK [])) ∧ HR K g2 H h2 ∧ DR K g2 H ys xs ∧ xs.length ≤ i ∧ i ≤ s.1.length ∧
      After K W (vr K) σ g1 H1 Q ((dcL t c ek e s (s.1.drop i) ys (wipeL l vs) h2).bind finD)
    refine ⟨fun i m H => m = s.1.length - i ∧ Wd i H, ⟨s.1.length, by simp, ⟨g1.m, D :: g1.r⟩, h1, [], [], upd_same, by rw [upd_upd]; exact Ext.refl, RD, DR.nil, by simp, Nat.zero_le _, by simpa using A⟩, ?_⟩
    rintro i m H ⟨rfl, g2, h2, ys, xs, eD, E, R2, r, hl, hil, A⟩
    have hDr : D ∈ g2.r := by rw [E.r]; exact List.mem_cons_self ..
    have hDm : D ∉ g2.m := fun z => R2.dis D z hDr
    obtain ⟨tm, em, nm⟩ := E.m
    have em : g2.m = g1.m ++ tm := em
    have nm : ∀ b ∈ tm, H1 b = none := fun b hb => by
      have q := nm b hb
      have hne : b ≠ D := by rintro rfl; rw [upd_same] at q; cases q
      rw [upd_ne hne] at q
      exact q
    have keep : ∀ b o, H1 b = some o → b ∉ g1.m → H b = some o := fun b o e hb => by
      have hne := ne_of_none e nD
      have q := E.keep b o (by rw [upd_ne hne]; exact e) hb
      rw [upd_ne hne] at q
      exact q
    have E2S : ExtS g1 H1 g2 H := ⟨⟨tm, em, nm⟩, ⟨[D], E.r, fun b hb => by rw [List.mem_singleton.mp hb]; exact nD⟩, fun b o e hb => keep b o e fun z => hb (.inl z)⟩
    have E2 : Ext g1 H1 ⟨g2.m, g1.r⟩ H := ⟨⟨tm, em, nm⟩, rfl, keep, fun b o e => by
      have hne := ne_of_none e nD
      obtain ⟨o', q⟩ := E.there b o (by rw [upd_ne hne]; exact e)
      rw [upd_ne hne] at q
      exact ⟨o', q⟩⟩
    have S2 : SR K g2 H (wipeL l vs) (wipe σ vs) := (S1.extS R1 E2S).wipe vs
    cases hd : s.1.drop i with
    | nil =>
      have hle : s.1.length ≤ i := List.drop_eq_nil_iff.mp hd
      rw [hd] at A
      simp only [dcL] at A
      split at A
      · rename_i ok
        exact .inl ⟨(sv g2 H h2 E2S R2 ok i).2 (Nat.le_antisymm hil hle), finD_ok nD R1 E R2 eD r A⟩
      · exact A.elim
    | cons v rest =>
      have hlt : i < s.1.length := by
        by_cases q : i < s.1.length
        · exact q
        · rw [List.drop_eq_nil_iff.mpr (by omega)] at hd; cases hd
      have hv : s.1[i]? = some v := by
        have q := congrArg List.head? hd
        rw [List.head?_drop] at q
        simpa using q
      have hr : s.1.drop (i + 1) = rest := by
        have q := congrArg List.tail hd
        rw [List.tail_drop] at q
        simpa using q
      rw [hd] at A
      simp only [dcL] at A
      split at A
      · rename_i ok
        obtain ⟨go, yl⟩ := (sv g2 H h2 E2S R2 ok i).1 v hv
        refine .inr ⟨go, Wd (i + 1), fun H' q => ⟨s.1.length - (i + 1), by omega, rfl, q⟩, fun x H' y => ?_⟩
        obtain ⟨E3, R3, rx⟩ := yl x H' y
        refine ⟨g2, wipeL l vs, h2, v, S2.ext R2 E3, R3, rx, ?_⟩
        cases et : t v (wipeL l vs) h2 with
        | exc x l1 h1 => rw [et] at A; exact A
        | fail => rw [et] at A; exact A
        | ok l3 h3 =>
          rw [et] at A
          simp only at A
          intro g4 H4 σ4 E4 R4 S4 w4
          refine ⟨w4.trans (wipe_wipe fun _ hu => hu), g4, l3, h3, S4, R4, ?_⟩
          cases ec : c l3 h3 with
          | exc x h1 => rw [ec] at A; exact A.elim
          | fail => rw [ec] at A; exact A.elim
          | ok b h5 =>
            rw [ec] at A
            simp only at A
            intro g5 H5 b' E5 R5 eb
            obtain rfl : b = b' := eb
            have E25 := (E3.trans E4).trans E5
            have keepD : ∀ {g6 : Gh} {H6 : Hp}, Ext g2 H g6 H6 → H6 D = some (.dK xs) := fun E6 => E6.keep D _ eD hDm
            cases b with
            | false =>
              rw [if_neg Bool.false_ne_true] at A ⊢
              exact ⟨g5, h5, ys, xs, keepD E25, E.trans (E25.reset hDm eD), R5, ⟨r.1, r.2.ext R2 E25⟩, by omega, hlt, by rw [hr]; exact A⟩
            | true =>
              rw [if_pos rfl] at A ⊢
              refine ⟨g5, l3, h5, S4.ext R4 E5, R5, ?_⟩
              cases ek0 : ek l3 h5 with
              | exc x h1 => rw [ek0] at A; exact A.elim
              | fail => rw [ek0] at A; exact A.elim
              | ok ky h5k =>
                rw [ek0] at A
                simp only at A
                intro g5k H5k kx E5k R5k rk
                refine ⟨g5k, l3, h5k, (S4.ext R4 E5).ext R5 E5k, R5k, ?_⟩
                cases ee : e l3 h5k with
                | exc x h1 => rw [ee] at A; exact A.elim
                | fail => rw [ee] at A; exact A.elim
                | ok y h6 =>
                  rw [ee] at A
                  simp only at A
                  intro g6 H6 xv E6 R6 rv
                  split at A
                  · rename_i kk hkk
                    have E26 := (E25.trans E5k).trans E6
                    have hD6 : D ∈ g6.r := by rw [E26.r]; exact hDr
                    have k6 := keepD E26
                    have rk6 := VR.ext R5k E6 rk
                    have dr : DR K g6 H6 (dPut ys ky y) (putK xs kk xv) := DR.put ⟨r.1, r.2.ext R2 E26⟩ hkk rv
                    have hle := length_putK xs kk xv
                    refine ⟨xs, kk, key_V rk hkk, k6, by omega, g6, h6, dPut ys ky y, putK xs kk xv, upd_same, ?_, R6.reset hD6 k6 trivial trivial, ⟨dr.1, dr.2.reset hD6 k6 trivial⟩, by omega, hlt, by rw [hr]; exact A⟩
                    rw [upd_upd]
                    exact E.trans (E26.reset hDm eD)
                  · exact A.elim
      · exact A.elim
end
section
variable {X : Cx} {W : WX}
theorem ge_dc {kx vx tg iter : Expr} {ifs : List Expr} {scope : Scope} (own : List (Str × Nat)) {pos : Pos} {di : DenG Src} {t : Tg} {c : DenG Bool} {ek e : Den} (hc : X.calm = true) (hN : X.N.Nodup) (hi : GI X W tg iter di)
    (hg : ∀ (s : Shared) (H : Hp) (C : Addr) (cl : List (Str × Addr)) (fp : List Addr), GC (X.blk s H scope (compEnvC scope cl C X.env) fp) (own.map (·.2)) tg t) (ht : ∀ (s : Shared) (H : Hp) (C : Addr) (cl : List (Str × Addr)) (fp : List Addr), GTs (X.blk s H scope (compEnvC scope cl C X.env) fp) W0 ifs c)
    (hk : ∀ (s : Shared) (H : Hp) (C : Addr) (cl : List (Str × Addr)) (fp : List Addr), GE (X.blk s H scope (compEnvC scope cl C X.env) fp) W0 kx ek)
    (he : ∀ (s : Shared) (H : Hp) (C : Addr) (cl : List (Str × Addr)) (fp : List Addr), GE (X.blk s H scope (compEnvC scope cl C X.env) fp) W0 vx e) (ok : blkC X.N X.env.scope scope own = true := by first | rfl | decide +kernel) (hs : ∀ x, foldedSetIterable iter X.env x = pure x := by intro _; rfl) :
    GE X W (.DictComp kx vx [⟨tg, iter, ifs, 0⟩] scope pos) (dDc (own.map (·.2)) di t c ek e) :=
  PE.imp (pe_dc (g := tTc X.K (own.map fun p : Str × Nat => p.2) t) (tt := tG X.K W0 br c) (tk := tG X.K W0 (vr X.K) ek) (tv := tG X.K W0 (vr X.K) e) hc hN hi (blkOk_by ok) hg ht hk he hs) fun σ H Q z => dc_red z
end
end GH
set_option Elab.async false
set_option linter.all false
set_option maxRecDepth 100000
set_option maxHeartbeats 1000000
set_option autoImplicit false
/-! max, min, join. -/
namespace GH
open PySem PySem.Spec PyProof.Rows L2
section
variable {X : Cx} {W : WX}
def vMax (v : Val) (h : Hv) : Res Val := match lstOf h v with
  | some l => match intsOf l with
    | some ns => match ns.max? with
      | some m => .ok (.int m) h
      | none => .fail
    | none => .fail
  | none => .fail
def vMin (v : Val) (h : Hv) : Res Val := match lstOf h v with
  | some l => match intsOf l with
    | some ns => match ns.min? with
      | some m => .ok (.int m) h
      | none => .fail
    | none => .fail
  | none => .fail
theorem c1_max (hc : X.calm = true) : C1 X (.builtin "max") vMax := ⟨_, cr_max hc, fun W g H h σ v x Q R r A => by
  unfold vMax at A
  split at A
  · rename_i l hl
    split at A
    · rename_i ns hn
      split at A
      · rename_i m hm
        obtain ⟨a, xs, rfl, s, rs⟩ := lstOf_ok R r hl
        rw [intsOf_ok hn rs] at s
        refine ⟨a, ns, rfl, SqL.of s, ?_, fun m' h1 h2 => ?_⟩
        · cases ns with
          | nil => cases hm
          | cons => simp
        · have := List.max?_eq_some_iff.mpr ⟨h1, h2⟩
          rw [hm] at this
          cases this
          exact A g H _ Ext.refl R (by simp only [VR])
      · exact A.elim
    · exact A.elim
  · exact A.elim⟩
theorem c1_min (hc : X.calm = true) : C1 X (.builtin "min") vMin := ⟨_, cr_min hc, fun W g H h σ v x Q R r A => by
  unfold vMin at A
  split at A
  · rename_i l hl
    split at A
    · rename_i ns hn
      split at A
      · rename_i m hm
        obtain ⟨a, xs, rfl, s, rs⟩ := lstOf_ok R r hl
        rw [intsOf_ok hn rs] at s
        refine ⟨a, ns, rfl, SqL.of s, ?_, fun m' h1 h2 => ?_⟩
        · cases ns with
          | nil => cases hm
          | cons => simp
        · have := List.min?_eq_some_iff.mpr ⟨h1, h2⟩
          rw [hm] at this
          cases this
          exact A g H _ Ext.refl R (by simp only [VR])
      · exact A.elim
    · exact A.elim
  · exact A.elim⟩
/-! max(a, b), min(a, b) -/
def C2 (X : Cx) (f : Value) (d : Val → Val → Hv → Res Val) : Prop := ∃ r, CallR X f r ∧ ∀ (W : WX) (g : Gh) (H : Hp) (h : Hv) (σ : L2.St) (v u : Val) (x y : V) (Q : VK), HR X.K g H h → VR X.K g H v x → VR X.K g H u y → After X.K W (vr X.K) σ g H Q (d v u h) → r [x, y] H Q
theorem ge_b2 {id : String} {f : Val → Val → Hv → Res Val} {a b : Expr} {da db : Den} {x : Str} {p pos : Pos} (hf : C2 X (.builtin id) f) (ha : GE X W a da) (hb : GE X W b db) (hm : X.mg x = none) (hg : Gl X x := by rfl) (hv : bootBuiltins x = some (.builtin id) := by decide +kernel) (hn : x ≠ "__name__" := by decide +kernel) (hdb : (x == ("__debug__" : Str)) = false := by decide +kernel)
    (hs1 : starEach [a, b] X.env = (false, eval a X.env) :: starEach [b] X.env := by rfl) (hst : starEach [b] X.env = (false, eval b X.env) :: starEach [] X.env := by rfl) (hpl : (backTo pos (starEach [b] X.env)).any (·.1) = false := by rfl) : GE X W (.Call (.Name x p) [a, b] [] pos) (dBin f da db) := by
  obtain ⟨r, hc, hr⟩ := hf
  refine PE.imp (pe_callB hc hg hm hv (pa_cons ha (pa_cons hb pa_nil hst) hs1) hn hdb hs1 hpl) fun σ H Q ⟨g, l, h, S, R, A⟩ => ?_
  refine tG_of S R A fun v h1 g1 H1 x E S1 R1 r1 A1 => ?_
  refine tG_of S1 R1 A1 fun u h2 g2 H2 y E2 S2 R2 r2 A2 => ?_
  exact hr W g2 H2 h2 σ v u x y Q R2 (r1.ext R1 E2) r2 A2
def vMax2 (v u : Val) (h : Hv) : Res Val := match v, u with
  | .int i, .int j => .ok (.int (if j > i then j else i)) h
  | _, _ => .fail
def vMin2 (v u : Val) (h : Hv) : Res Val := match v, u with
  | .int i, .int j => .ok (.int (if j < i then j else i)) h
  | _, _ => .fail
theorem c2_max (hc : X.calm = true) : C2 X (.builtin "max") vMax2 := ⟨_, call_max2 hc, fun W g H h σ v u x y Q R rv ru A => by
  unfold vMax2 at A
  split at A
  · simp only [VR] at rv ru
    subst rv ru
    exact ⟨_, _, rfl, A g H _ Ext.refl R (by simp only [VR])⟩
  · exact A.elim⟩
theorem c2_min (hc : X.calm = true) : C2 X (.builtin "min") vMin2 := ⟨_, call_min2 hc, fun W g H h σ v u x y Q R rv ru A => by
  unfold vMin2 at A
  split at A
  · simp only [VR] at rv ru
    subst rv ru
    exact ⟨_, _, rfl, A g H _ Ext.refl R (by simp only [VR])⟩
  · exact A.elim⟩
/-! a text joins texts -/
def strsOf : List Val → Option (List (List Nat))
  | [] => some []
  | .str s :: l => (strsOf l).map (s :: ·)
  | _ :: _ => none
theorem strsOf_ok {K : PySem.W.Frag} {g : Gh} {H : Hp} : ∀ {l : List Val} {ns : List (List Nat)} {xs : List V}, strsOf l = some ns → VRs K g H l xs → xs = (ns.map sOf).map V.str
  | [], ns, xs, e, r => by
    simp only [strsOf, Option.some.injEq] at e
    subst e
    simpa [VRs] using r
  | v :: l, ns, xs, e, r => by
    simp only [VRs] at r
    obtain ⟨x, xs', rfl, r1, r2⟩ := r
    cases v with
    | str s =>
      simp only [strsOf, Option.map_eq_some_iff] at e
      obtain ⟨ns', e, rfl⟩ := e
      simp only [VR] at r1
      rw [r1, strsOf_ok e r2]; rfl
    | _ => simp [strsOf] at e
def isStr (h : Hv) : Val → Bool
  | .str _ => true
  | _ => false
def vJoin (x v : Val) (h : Hv) : Res Val := match x with
  | .str a => match seqOf h v with
    | some l => match strsOf l with
      | some ys => if (ys.map List.length).sum + ys.length * a.length ≤ 16777216 then .ok (.str (TL.joinL a ys)) h else .fail
      | none => .fail
    | none => .fail
  | _ => .fail
theorem str_ty {K : PySem.W.Frag} {g : Gh} {H : Hp} {h : Hv} {v : Val} {x : V} (r : VR K g H v x) (e : isStr h v = true) : tyV K "str" x H := by
  cases v with
  | str s =>
    simp only [VR] at r
    subst r
    exact rfl
  | _ => exact absurd e Bool.false_ne_true
theorem m1_join : M1R X "str" "str.join" isStr vJoin := ⟨fun g H h v x R r e => str_ty r e, _, mt_join, fun W g H h σ v u x y Q R rv ru A => by
  unfold vJoin at A
  split at A
  · rename_i a
    split at A
    · rename_i l hl
      split at A
      · rename_i ys hy
        split at A
        · rename_i hz
          simp only [VR] at rv
          subst rv
          obtain ⟨p, xs, rfl, s, rs⟩ := seqOf_ok R ru hl
          have e := strsOf_ok hy rs
          refine ⟨_, p, ys.map sOf, rfl, rfl, by rw [e] at s; exact s, ?_, ?_⟩
          · have : ((ys.map sOf).map (·.length)) = ys.map List.length := by simp [sOf_len]
            rw [this, List.length_map, sOf_len]
            exact hz
          · rw [show Txt.join (sOf a) (ys.map sOf) = sOf (TL.joinL a ys) from SX.join_S a ys]
            exact A g H _ Ext.refl R (by simp only [VR])
        · exact A.elim
      · exact A.elim
    · exact A.elim
  · exact A.elim⟩
theorem ge_join {o e : Expr} {dx de : Den} {apos cpos : Pos} (ho : GE X W o dx) (he : GE X W e de) (hbase : attributeBase o "join" X.env (eval o X.env) = eval o X.env := by rfl)
    (hfew : ((backTo cpos (starEach [e] X.env)).all (fun x => !x.1) && (backToKw cpos (keywordEach [] X.env)).all (fun x => x.1.isSome)
      && decide (([e] : List Expr).length + ([] : List Keyword).length + (if ([] : List Keyword).isEmpty then 0 else 1) < 30)) = true := by rfl)
    (hline : (apos.endLine == cpos.line) = true := by rfl) (hs : starEach [e] X.env = (false, eval e X.env) :: starEach [] X.env := by rfl) (hplain : (backTo cpos (starEach [] X.env)).any (·.1) = false := by rfl) :
    GE X W (.Call (.Attribute o "join" apos) [e] [] cpos) (dMeth1 isStr vJoin dx de) :=
  ge_meth1 m1_join PySem.F.plainAttrs_str PySem.F.slot_str_join PySem.F.type_str_join ho he hbase hfew hline hs hplain
end
end GH
set_option Elab.async false
set_option linter.all false
set_option maxRecDepth 100000
set_option maxHeartbeats 1000000
set_option autoImplicit false
/-! Comprehensions of two clauses. -/
namespace GH
open PySem PySem.Spec PyProof.Rows L2
open Classical in
noncomputable def lcB (t : Tg) (c : DenG Bool) (e : Den) (s : Src) : List Val → List Val → Loc → Hv → Res (List Val)
  | [], acc, _, h => if srcOk s h then .ok acc h else .fail
  | x :: r, acc, l, h => if srcOk s h then (match t x l h with
    | .ok l1 h1 => (match c l1 h1 with
      | .ok b h2 => if b = true then (match e l1 h2 with
        | .ok v h3 => if acc.length < lineN then lcB t c e s r (acc ++ [v]) l h3 else .fail
        | _ => .fail) else lcB t c e s r acc l h2
      | _ => .fail)
    | _ => .fail) else .fail
open Classical in
noncomputable def lc2L (t : Tg) (c : DenG Bool) (di1 : DenG Src) (t1 : Tg) (c1 : DenG Bool) (e : Den) (vs1 : List Nat) (s : Src) : List Val → List Val → Loc → Hv → Res (List Val)
  | [], acc, _, h => if srcOk s h then .ok acc h else .fail
  | x :: r, acc, l, h => if srcOk s h then (match t x l h with
    | .ok l1 h1 => (match c l1 h1 with
      | .ok b h2 => if b = true then (match di1 l1 h2 with
        | .ok s1 h3 => (lcB t1 c1 e s1 s1.1 acc (wipeL l1 vs1) h3).bind fun acc' h4 => lc2L t c di1 t1 c1 e vs1 s r acc' l h4
        | _ => .fail) else lc2L t c di1 t1 c1 e vs1 s r acc l h2
      | _ => .fail)
    | _ => .fail) else .fail
noncomputable def dLc2 (fin : List Val → Hv → Res Val) (vs vs1 : List Nat) (di : DenG Src) (t : Tg) (c : DenG Bool) (di1 : DenG Src) (t1 : Tg) (c1 : DenG Bool) (e : Den) : Den := fun l h => (di l h).bind fun s h1 => (lc2L t c di1 t1 c1 e vs1 s s.1 [] (wipeL l vs) h1).bind fin
section
variable {K : PySem.W.Frag}
/-- the inner loop, from a state of the outer -/
theorem lc_inner {W : WX} {σ0 : L2.St} {Q : VK} {k : List Val → Hv → Res Val} {t : Tg} {c : DenG Bool} {e : Den} {vs : List Nat} {g1 g4 : Gh} {H1 H4 : Hp} {h1 h4 : Hv} {D : Addr} {ys0 : List Val} {xs0 : List V} {J : It} {s : Src} {σ : L2.St} {l : Loc} {Nx : Hp → Prop}
    (R1 : HR K g1 H1 h1) (nD : H1 D = none) (E0 : Ext ⟨g1.m, D :: g1.r⟩ (upd H1 D (.lst [])) g4 (upd H4 D (.lst []))) (R4 : HR K g4 H4 h4) (e4 : H4 D = some (.lst xs0)) (r4 : VRs K g4 H4 ys0 xs0) (S4 : SR K g4 H4 l σ) (sv : Serves K J g4 H4 s) (ok4 : srcOk s h4)
    (A0 : After K W (vr K) σ0 g1 H1 Q ((lcB t c e s s.1 ys0 (wipeL l vs) h4).bind k))
    (fin : ∀ g2 H h ys xs, Ext ⟨g1.m, D :: g1.r⟩ (upd H1 D (.lst [])) g2 (upd H D (.lst [])) → HR K g2 H h → H D = some (.lst xs) → VRs K g2 H ys xs → Ext g4 (upd H4 D (.lst [])) g2 (upd H D (.lst [])) → After K W (vr K) σ0 g1 H1 Q (k ys h) → Nx H) :
    ∃ W1 : Nat → Nat → Hp → Prop, (∃ m, W1 0 m H4) ∧ ∀ i m H, W1 i m H →
      (J.stop i H ∧ Nx H) ∨ (J.go i H ∧ ∃ Nx1 : Hp → Prop, (∀ H', Nx1 H' → ∃ k', k' < m ∧ W1 (i + 1) k' H') ∧ ∀ x H', J.yld i H x H' → (tTc K vs t) x (wipe σ vs) H' fun σ3 H5 => wipe σ3 vs = wipe σ vs ∧ (tG K W0 br c) σ3 H5 fun b H6 =>
        if b = true then (tG K W0 (vr K) e) σ3 H6 fun y H7 => ∃ acc, H7 D = some (.lst acc) ∧ acc.length < sizeLine ∧ Nx1 (upd H7 D (.lst (acc ++ [y]))) else Nx1 H6) := by
  let Wd : Nat → Hp → Prop := fun i H => ∃ g2 h2 ys xs, H D = some (.lst xs) ∧ Ext g4 (upd H4 D (.lst [])) g2 (upd H D (.lst [])) ∧ HR K g2 H h2 ∧ VRs K g2 H ys xs ∧ i ≤ s.1.length ∧
    After K W (vr K) σ0 g1 H1 Q ((lcB t c e s (s.1.drop i) ys (wipeL l vs) h2).bind k)
  refine ⟨fun i m H => m = s.1.length - i ∧ Wd i H, ⟨s.1.length, by simp, g4, h4, ys0, xs0, e4, Ext.refl, R4, r4, Nat.zero_le _, by simpa using A0⟩, ?_⟩
  rintro i m H ⟨rfl, g2, h2, ys, xs, eD, E4, R2, r, hil, A⟩
  have E := E0.trans E4
  have hDr : D ∈ g2.r := by rw [E.r]; exact List.mem_cons_self ..
  have hDm : D ∉ g2.m := fun z => R2.dis D z hDr
  have hD4 : D ∈ g4.r := by rw [E0.r]; exact List.mem_cons_self ..
  have hDm4 : D ∉ g4.m := fun z => R4.dis D z hD4
  obtain ⟨tm, em, nm⟩ := E4.m
  have nm : ∀ b ∈ tm, H4 b = none := fun b hb => by
    have q := nm b hb
    have hne : b ≠ D := by rintro rfl; rw [upd_same] at q; cases q
    rw [upd_ne hne] at q
    exact q
  -- but for the list itself all is as before
  have keepX : ∀ b o, b ≠ D → H4 b = some o → b ∉ g4.m → H b = some o := fun b o hne e hb => by
    have q := E4.keep b o (by rw [upd_ne hne]; exact e) hb
    rw [upd_ne hne] at q
    exact q
  -- states and items do not speak of the list
  have R4r := R4.reset (zs := .lst []) hD4 e4 trivial trivial
  have R2r := R2.reset (zs := .lst []) hDr eD trivial trivial
  have S4r : SR K g4 (upd H4 D (.lst [])) l σ := ⟨S4.len, fun i v e => by
    obtain ⟨x, a, b⟩ := S4.at_ i v e
    exact ⟨x, a, b.reset hD4 e4 trivial⟩⟩
  have S2r : SR K g2 (upd H D (.lst [])) l σ := S4r.ext R4r E4
  have back : ∀ {v : Val} {x : V}, VR K g2 (upd H D (.lst [])) v x → VR K g2 H v x := fun {v x} q => by
    have := VR.reset (ds := .lst []) (zs := .lst xs) hDr upd_same trivial q
    rwa [upd_upd, upd_self' eD] at this
  have S2 : SR K g2 H (wipeL l vs) (wipe σ vs) := SR.wipe ⟨S2r.len, fun i v e => by
    obtain ⟨x, a, b⟩ := S2r.at_ i v e
    exact ⟨x, a, back b⟩⟩ vs
  have ES : ExtS g4 H4 g2 H := ⟨⟨tm, em, nm⟩, ⟨[], by rw [E4.r]; rfl, by simp⟩, fun b o e hb => keepX b o (fun z => hb (.inr (by rw [z]; exact hD4))) e fun z => hb (.inl z)⟩
  have SV := sv g2 H h2 ES R2
  cases hd : s.1.drop i with
  | nil =>
    have hle : s.1.length ≤ i := List.drop_eq_nil_iff.mp hd
    rw [hd] at A
    simp only [lcB] at A
    split at A
    · rename_i ok
      exact .inl ⟨(SV ok i).2 (Nat.le_antisymm hil hle), fin g2 H h2 ys xs E R2 eD r E4 A⟩
    · exact A.elim
  | cons v rest =>
    have hlt : i < s.1.length := by
      by_cases q : i < s.1.length
      · exact q
      · rw [List.drop_eq_nil_iff.mpr (by omega)] at hd; cases hd
    have hv : s.1[i]? = some v := by
      have q := congrArg List.head? hd
      rw [List.head?_drop] at q
      simpa using q
    have hr : s.1.drop (i + 1) = rest := by
      have q := congrArg List.tail hd
      rw [List.tail_drop] at q
      simpa using q
    rw [hd] at A
    simp only [lcB] at A
    split at A
    · rename_i ok
      obtain ⟨go, yl⟩ := (SV ok i).1 v hv
      refine .inr ⟨go, Wd (i + 1), fun H' q => ⟨s.1.length - (i + 1), by omega, rfl, q⟩, fun x H' y => ?_⟩
      obtain ⟨E3, R3, rx⟩ := yl x H' y
      refine ⟨g2, wipeL l vs, h2, v, S2.ext R2 E3, R3, rx, ?_⟩
      cases et : t v (wipeL l vs) h2 with
      | exc x l1 h1 => rw [et] at A; exact A
      | fail => rw [et] at A; exact A
      | ok l3 h3 =>
        rw [et] at A
        simp only at A
        intro gb Hb σb Eb Rb Sb wb
        refine ⟨wb.trans (wipe_wipe fun _ hu => hu), gb, l3, h3, Sb, Rb, ?_⟩
        cases ec : c l3 h3 with
        | exc x h1 => rw [ec] at A; exact A.elim
        | fail => rw [ec] at A; exact A.elim
        | ok b h5 =>
          rw [ec] at A
          simp only at A
          intro g5 H5 b' E5 R5 eb
          obtain rfl : b = b' := eb
          have E25 := (E3.trans Eb).trans E5
          have keepD : ∀ {g6 : Gh} {H6 : Hp}, Ext g2 H g6 H6 → H6 D = some (.lst xs) := fun E6 => E6.keep D _ eD hDm
          cases b with
          | false =>
            rw [if_neg Bool.false_ne_true] at A ⊢
            exact ⟨g5, h5, ys, xs, keepD E25, E4.trans (E25.reset hDm eD), R5, r.ext R2 E25, hlt, by rw [hr]; exact A⟩
          | true =>
            rw [if_pos rfl] at A ⊢
            refine ⟨g5, l3, h5, Sb.ext Rb E5, R5, ?_⟩
            cases ee : e l3 h5 with
            | exc x h1 => rw [ee] at A; exact A.elim
            | fail => rw [ee] at A; exact A.elim
            | ok y h6 =>
              rw [ee] at A
              simp only at A
              intro g6 H6 xv E6 R6 rv
              have E26 := E25.trans E6
              have hD6 : D ∈ g6.r := by rw [E26.r]; exact hDr
              have k6 := keepD E26
              split at A
              · rename_i hac
                refine ⟨xs, k6, by rw [← r.length]; exact line_lt hac, g6, h6, ys ++ [y], xs ++ [xv], upd_same, ?_, R6.reset hD6 k6 trivial trivial, ((r.ext R2 E26).append (.one rv)).reset hD6 k6 trivial, hlt, by rw [hr]; exact A⟩
                rw [upd_upd]
                exact E4.trans (E26.reset hDm eD)
              · exact A.elim
    · exact A.elim
theorem bind_assoc' {α β γ : Type} (r : Res α) (f : α → Hv → Res β) (k : β → Hv → Res γ) : (r.bind f).bind k = r.bind fun a h => (f a h).bind k := by
  cases r <;> rfl
theorem lc2_red {W : WX} {fin : List Val → Hv → Res Val} (hfin : FinOk K fin) {vs vs1 : List Nat} {di : DenG Src} {t : Tg} {c : DenG Bool} {di1 : DenG Src} {t1 : Tg} {c1 : DenG Bool} {e : Den} {σ : L2.St} {H : Hp} {Q : VK} (z : tG K W (vr K) (dLc2 fin vs vs1 di t c di1 t1 c1 e) σ H Q) :
    tLc2 (tI K W di) (tTc K vs t) (tG K W0 br c) (tI K W0 di1) (tTc K vs1 t1) (tG K W0 br c1) (tG K W0 (vr K) e) vs vs1 σ H Q := by
  obtain ⟨g, l, h, S, R, A⟩ := z
  refine ⟨g, l, h, S, R, ?_⟩
  unfold dLc2 at A
  unfold AfterI
  cases ed : di l h with
  | exc x h1 => rw [ed] at A; exact A
  | fail => rw [ed] at A; exact A
  | ok s h1 =>
    rw [ed] at A
    simp only [Res.bind_ok] at A
    have ok1 : srcOk s h1 := by
      cases hs1 : s.1 with
      | nil =>
        rw [hs1] at A
        simp only [lc2L] at A
        split at A
        · assumption
        · exact A.elim
      | cons x r =>
        rw [hs1] at A
        simp only [lc2L] at A
        split at A
        · assumption
        · exact A.elim
    refine ⟨ok1, fun g1 H1 J E1 R1 hz sv D nD => ?_⟩
    have A := After.ext E1 A
    have al : ∀ b ∈ g1.r, ∃ o, H1 b = some o := fun b hb => R1.own_there (.inr hb)
    have S1 := S.ext R E1
    -- the new list is put aside
    have ES : ExtS g1 H1 ⟨g1.m, D :: g1.r⟩ (upd H1 D (.lst [])) := ⟨⟨[], by simp, by simp⟩, ⟨[D], rfl, fun b hb => by rw [List.mem_singleton.mp hb]; exact nD⟩, fun b o e hb => by rw [upd_ne (ne_of_none e nD)]; exact e⟩
    have RD : HR K ⟨g1.m, D :: g1.r⟩ (upd H1 D (.lst [])) h1 := by
      refine ⟨R1.len, R1.nd, fun a ha z => ?_, fun a ha => ?_, fun i o a e1 e2 => ?_⟩
      · rcases List.mem_cons.mp z with z | z
        · subst z; exact R1.fresh nD (.inl ha)
        · exact R1.dis a ha z
      · rcases List.mem_cons.mp ha with z | z
        · subst z; exact ⟨_, upd_same, trivial⟩
        · obtain ⟨ob, e, mo⟩ := R1.al a z
          exact ⟨ob, by rw [upd_ne (ne_of_none e nD)]; exact e, mo⟩
      · have q := R1.obj i o a e1 e2
        cases o with
        | lst l => obtain ⟨xs, e, r⟩ := q; exact ⟨xs, by rw [upd_ne (ne_of_none e nD)]; exact e, r.extS R1 ES⟩
        | dic l => obtain ⟨xs, e, r⟩ := q; exact ⟨xs, by rw [upd_ne (ne_of_none e nD)]; exact e, r.1, r.2.extS R1 ES⟩
        | ins c f => obtain ⟨dx, gs, e, r⟩ := q; exact ⟨dx, gs, by rw [upd_ne (ne_of_none e nD)]; exact e, r.1, r.2.extS R1 ES⟩
    let Wd : Nat → Hp → Prop := fun i H => ∃ g2 h2 ys xs, H D = some (.lst xs) ∧ Ext ⟨g1.m, D :: g1.r⟩ (upd H1 D (.lst [])) g2 (upd H D (.lst [])) ∧ HR K g2 H h2 ∧ VRs K g2 H ys xs ∧ i ≤ s.1.length ∧
      After K W (vr K) σ g1 H1 Q ((lc2L t c di1 t1 c1 e vs1 s (s.1.drop i) ys (wipeL l vs) h2).bind fin)
    refine ⟨fun i m H => m = s.1.length - i ∧ Wd i H, ⟨s.1.length, by simp, ⟨g1.m, D :: g1.r⟩, h1, [], [], upd_same, by rw [upd_upd]; exact Ext.refl, RD, VRs.nil, Nat.zero_le _, by simpa using A⟩, ?_⟩
    rintro i m H ⟨rfl, g2, h2, ys, xs, eD, E, R2, r, hil, A⟩
    have hDr : D ∈ g2.r := by rw [E.r]; exact List.mem_cons_self ..
    have hDm : D ∉ g2.m := fun z => R2.dis D z hDr
    obtain ⟨tm, em, nm⟩ := E.m
    have em : g2.m = g1.m ++ tm := em
    have nm : ∀ b ∈ tm, H1 b = none := fun b hb => by
      have q := nm b hb
      have hne : b ≠ D := by rintro rfl; rw [upd_same] at q; cases q
      rw [upd_ne hne] at q
      exact q
    have keep : ∀ b o, H1 b = some o → b ∉ g1.m → H b = some o := fun b o e hb => by
      have hne := ne_of_none e nD
      have q := E.keep b o (by rw [upd_ne hne]; exact e) hb
      rw [upd_ne hne] at q
      exact q
    have E2S : ExtS g1 H1 g2 H := ⟨⟨tm, em, nm⟩, ⟨[D], E.r, fun b hb => by rw [List.mem_singleton.mp hb]; exact nD⟩, fun b o e hb => keep b o e fun z => hb (.inl z)⟩
    have E2 : Ext g1 H1 ⟨g2.m, g1.r⟩ H := ⟨⟨tm, em, nm⟩, rfl, keep, fun b o e => by
      have hne := ne_of_none e nD
      obtain ⟨o', q⟩ := E.there b o (by rw [upd_ne hne]; exact e)
      rw [upd_ne hne] at q
      exact ⟨o', q⟩⟩
    have S2 : SR K g2 H (wipeL l vs) (wipe σ vs) := (S1.extS R1 E2S).wipe vs
    cases hd : s.1.drop i with
    | nil =>
      have hle : s.1.length ≤ i := List.drop_eq_nil_iff.mp hd
      rw [hd] at A
      simp only [lc2L] at A
      split at A
      · rename_i ok
        exact .inl ⟨(sv g2 H h2 E2S R2 ok i).2 (Nat.le_antisymm hil hle), hfin nD al hDr E.r eD E2 R2 r A⟩
      · exact A.elim
    | cons v rest =>
      have hlt : i < s.1.length := by
        by_cases q : i < s.1.length
        · exact q
        · rw [List.drop_eq_nil_iff.mpr (by omega)] at hd; cases hd
      have hv : s.1[i]? = some v := by
        have q := congrArg List.head? hd
        rw [List.head?_drop] at q
        simpa using q
      have hr : s.1.drop (i + 1) = rest := by
        have q := congrArg List.tail hd
        rw [List.tail_drop] at q
        simpa using q
      rw [hd] at A
      simp only [lc2L] at A
      split at A
      · rename_i ok
        obtain ⟨go, yl⟩ := (sv g2 H h2 E2S R2 ok i).1 v hv
        refine .inr ⟨go, Wd (i + 1), fun H' q => ⟨s.1.length - (i + 1), by omega, rfl, q⟩, fun x H' y => ?_⟩
        obtain ⟨E3, R3, rx⟩ := yl x H' y
        refine ⟨g2, wipeL l vs, h2, v, S2.ext R2 E3, R3, rx, ?_⟩
        cases et : t v (wipeL l vs) h2 with
        | exc x l1 h1 => rw [et] at A; exact A
        | fail => rw [et] at A; exact A
        | ok l3 h3 =>
          rw [et] at A
          simp only at A
          intro g4 H4 σ4 E4 R4 S4 w4
          refine ⟨w4.trans (wipe_wipe fun _ hu => hu), g4, l3, h3, S4, R4, ?_⟩
          cases ec : c l3 h3 with
          | exc x h1 => rw [ec] at A; exact A.elim
          | fail => rw [ec] at A; exact A.elim
          | ok b h5 =>
            rw [ec] at A
            simp only at A
            intro g5 H5 b' E5 R5 eb
            obtain rfl : b = b' := eb
            have E25 := (E3.trans E4).trans E5
            have keepD : ∀ {g6 : Gh} {H6 : Hp}, Ext g2 H g6 H6 → H6 D = some (.lst xs) := fun E6 => E6.keep D _ eD hDm
            cases b with
            | false =>
              rw [if_neg Bool.false_ne_true] at A ⊢
              exact ⟨g5, h5, ys, xs, keepD E25, E.trans (E25.reset hDm eD), R5, r.ext R2 E25, hlt, by rw [hr]; exact A⟩
            | true =>
              rw [if_pos rfl] at A ⊢
              refine ⟨g5, l3, h5, S4.ext R4 E5, R5, ?_⟩
              cases ei : di1 l3 h5 with
              | exc x h1 => rw [ei] at A; exact A.elim
              | fail => rw [ei] at A; exact A.elim
              | ok s1 h6 =>
                rw [ei] at A
                simp only at A
                have ok6 : srcOk s1 h6 := by
                  cases hs1 : s1.1 with
                  | nil =>
                    rw [hs1] at A
                    simp only [lcB] at A
                    split at A
                    · assumption
                    · exact A.elim
                  | cons x r =>
                    rw [hs1] at A
                    simp only [lcB] at A
                    split at A
                    · assumption
                    · exact A.elim
                refine ⟨ok6, fun g6 H6 J1 E6 R6 hz1 sv1 => ?_⟩
                have E26 := E25.trans E6
                have k6 := keepD E26
                have S6 := (S4.ext R4 E5).ext R5 E6
                refine lc_inner (k := fun acc' h4 => (lc2L t c di1 t1 c1 e vs1 s rest acc' (wipeL l vs) h4).bind fin) R1 nD (E.trans (E26.reset hDm eD)) R6 k6 (r.ext R2 E26) S6 sv1 ok6 (by rw [← bind_assoc']; exact A) fun g7 H7 h7 ys7 xs7 E7 R7 e7 r7 E67 A7 => ?_
                exact ⟨g7, h7, ys7, xs7, e7, E7, R7, r7, hlt, by rw [hr]; exact A7⟩
      · exact A.elim
end
section
variable {X : Cx} {W : WX}
theorem ge_lc2 {fin : List Val → Hv → Res Val} (hfin : FinOk X.K fin) {elt tg iter tg1 iter1 : Expr} {ifs ifs1 : List Expr} {scope : Scope} (own : List (Str × Nat)) (vs1 : List Nat) {pos : Pos} {di di1 : DenG Src} {t t1 : Tg} {c c1 : DenG Bool} {e : Den} (hc : X.calm = true) (hN : X.N.Nodup) (hi : GI X W tg iter di)
    (hg : ∀ (s : Shared) (H : Hp) (C : Addr) (cl : List (Str × Addr)) (fp : List Addr), GC (X.blk s H scope (compEnvC scope cl C X.env) fp) (own.map (·.2)) tg t) (ht : ∀ (s : Shared) (H : Hp) (C : Addr) (cl : List (Str × Addr)) (fp : List Addr), GTs (X.blk s H scope (compEnvC scope cl C X.env) fp) W0 ifs c)
    (hi1 : ∀ (s : Shared) (H : Hp) (C : Addr) (cl : List (Str × Addr)) (fp : List Addr), GI (X.blk s H scope (compEnvC scope cl C X.env) fp) W0 tg1 iter1 di1)
    (hg1 : ∀ (s : Shared) (H : Hp) (C : Addr) (cl : List (Str × Addr)) (fp : List Addr), GC (X.blk s H scope (compEnvC scope cl C X.env) fp) vs1 tg1 t1) (ht1 : ∀ (s : Shared) (H : Hp) (C : Addr) (cl : List (Str × Addr)) (fp : List Addr), GTs (X.blk s H scope (compEnvC scope cl C X.env) fp) W0 ifs1 c1)
    (he : ∀ (s : Shared) (H : Hp) (C : Addr) (cl : List (Str × Addr)) (fp : List Addr), GE (X.blk s H scope (compEnvC scope cl C X.env) fp) W0 elt e) (hv : ∀ i ∈ vs1, i ∈ own.map (·.2) := by decide) (ok : blkC X.N X.env.scope scope own = true := by first | rfl | decide +kernel) (hs : ∀ x, foldedSetIterable iter X.env x = pure x := by intro _; rfl) (hs1 : ∀ env x, foldedSetIterable iter1 env x = pure x := by intro _ _; rfl) :
    GE X W (.ListComp elt [⟨tg, iter, ifs, 0⟩, ⟨tg1, iter1, ifs1, 0⟩] scope pos) (dLc2 fin (own.map (·.2)) vs1 di t c di1 t1 c1 e) :=
  PE.imp (pe_lc2 (g := tTc X.K (own.map fun p : Str × Nat => p.2) t) (tt := tG X.K W0 br c) (wi1 := tI X.K W0 di1) (g1 := tTc X.K vs1 t1) (tt1 := tG X.K W0 br c1) (te := tG X.K W0 (vr X.K) e) hc hN hi (blkOk_by ok) hv hg ht hi1 hg1 ht1 he hs hs1) fun σ H Q z => lc2_red hfin z
theorem gs_setLc2 {fin : List Val → Hv → Res Val} (hfin : FinOk X.K fin) (i : Nat) {y : Str} {py : Pos} {elt tg iter tg1 iter1 : Expr} {ifs ifs1 : List Expr} {scope : Scope} (own : List (Str × Nat)) (vs1 : List Nat) {pos spos : Pos} {di di1 : DenG Src} {t t1 : Tg} {c c1 : DenG Bool} {e : Den} (hc : X.calm = true) (hN : X.N.Nodup) (hi : GI X W tg iter di)
    (hg : ∀ (s : Shared) (H : Hp) (C : Addr) (cl : List (Str × Addr)) (fp : List Addr), GC (X.blk s H scope (compEnvC scope cl C X.env) fp) (own.map (·.2)) tg t) (ht : ∀ (s : Shared) (H : Hp) (C : Addr) (cl : List (Str × Addr)) (fp : List Addr), GTs (X.blk s H scope (compEnvC scope cl C X.env) fp) W0 ifs c)
    (hi1 : ∀ (s : Shared) (H : Hp) (C : Addr) (cl : List (Str × Addr)) (fp : List Addr), GI (X.blk s H scope (compEnvC scope cl C X.env) fp) W0 tg1 iter1 di1)
    (hg1 : ∀ (s : Shared) (H : Hp) (C : Addr) (cl : List (Str × Addr)) (fp : List Addr), GC (X.blk s H scope (compEnvC scope cl C X.env) fp) vs1 tg1 t1) (ht1 : ∀ (s : Shared) (H : Hp) (C : Addr) (cl : List (Str × Addr)) (fp : List Addr), GTs (X.blk s H scope (compEnvC scope cl C X.env) fp) W0 ifs1 c1)
    (he : ∀ (s : Shared) (H : Hp) (C : Addr) (cl : List (Str × Addr)) (fp : List Addr), GE (X.blk s H scope (compEnvC scope cl C X.env) fp) W0 elt e) (hy : X.N[i]? = some y := by rfl) (hyl : X.env.scope.names.lookup y = some .local := by rfl) (hsw : swapsWith (.ListComp elt [⟨tg, iter, ifs, 0⟩, ⟨tg1, iter1, ifs1, 0⟩] scope pos) (some (.Name y py)) spos.line X.env = pure true := by exact sw_true rfl rfl rfl (by decide +kernel)) (hv : ∀ i ∈ vs1, i ∈ own.map (·.2) := by decide) (ok : blkC X.N X.env.scope scope own = true := by first | rfl | decide +kernel) (hs : ∀ x, foldedSetIterable iter X.env x = pure x := by intro _; rfl) (hs1 : ∀ env x, foldedSetIterable iter1 env x = pure x := by intro _ _; rfl) :
    GS X W (.Assign [.Name y py] (.ListComp elt [⟨tg, iter, ifs, 0⟩, ⟨tg1, iter1, ifs1, 0⟩] scope pos) spos) (sAsg (dLc2 fin (own.map (·.2)) vs1 di t c di1 t1 c1 e) (gName i)) := by
  refine PS.imp (ps_setLc2 (g := tTc X.K (own.map fun p : Str × Nat => p.2) t) (tt := tG X.K W0 br c) (wi1 := tI X.K W0 di1) (g1 := tTc X.K vs1 t1) (tt1 := tG X.K W0 br c1) (te := tG X.K W0 (vr X.K) e) hc hN hy hyl hsw hi (blkOk_by ok) hv hg ht hi1 hg1 ht1 he hs hs1) fun D σ H ⟨g, l, h, S, R, A⟩ => ?_
  refine lc2_red hfin ?_
  refine tG_to S R A fun v h1 g1 H1 x E S1 R1 r1 A1 => ?_
  exact A1 g1 H1 _ Ext.refl R1 (S1.set i r1)
end
end GH
set_option Elab.async false
set_option linter.all false
set_option maxRecDepth 100000
set_option maxHeartbeats 1000000
set_option autoImplicit false
/-! t[:0:-1] of a tuple. -/
namespace HT
open PySem PySem.Spec PyProof.Rows
section
variable {prog : Program} {w : World} {A : Around} {E : Value → Shared → Prop} {s : Shared}
theorem gh_adjust (n : Nat) : Builtin.Slice.sliceAdjust none (some 0) (-1) (n : Int) = ((n : Int) - 1, if n = 0 then -1 else 0) := by
  unfold Builtin.Slice.sliceAdjust
  cases n with
  | zero => rfl
  | succ n =>
    refine Prod.ext ?_ ?_
    · simp
    · simp
      omega
theorem gh_places (n : Nat) : Builtin.Slice.slicePlaces ((n : Int) - 1) (if n = 0 then -1 else 0) (-1) = n - 1 := by
  unfold Builtin.Slice.slicePlaces
  cases n with
  | zero => rfl
  | succ n =>
    simp
    omega
theorem gh_applied {sl : Addr} {vl vu vs : Value} {n : Nat} {Q : Int × Int × Nat → Shared → Prop} (hs : s.heap.IsSliceOf sl vl vu vs) (pl : IsPart vl none) (pu : IsPart vu (some 0)) (ps : IsPart vs (some (-1)))
    (h : Q ((n : Int) - 1, -1, n - 1) s) : wpAny (model prog w) A (Builtin.Slice.sliceApplied (.ref sl) (pure (n : Int))) Q E s := by
  obtain ⟨os, hos, hcs, hds⟩ := id hs
  unfold Builtin.Slice.sliceApplied Builtin.Slice.sliceFields
  refine wpAny_bind (wpAny_bind (wpAny_field hos hds (x := vl) rfl (wpAny_bind (wpAny_field hos hds (x := vu) rfl (wpAny_bind (wpAny_field hos hds (x := vs) rfl (wpAny_pure ?_)))))))
  refine wpAny_bind (slicePart_ ps ?_)
  show wpAny _ _ (if ((-1 : Int) == 0) = true then _ else _) _ _ s
  rw [if_neg (by decide)]
  refine wpAny_bind (slicePart_ pl (wpAny_bind (slicePart_ pu (wpAny_bind (wpAny_pure ?_)))))
  show wpAny _ _ (match Builtin.Slice.sliceAdjust none (some 0) (-1) (n : Int) with | (lo, hi) => pure (lo, (-1 : Int), Builtin.Slice.slicePlaces lo hi (-1))) _ _ s
  rw [gh_adjust n]
  show wpAny _ _ (pure ((n : Int) - 1, (-1 : Int), Builtin.Slice.slicePlaces ((n : Int) - 1) (if n = 0 then -1 else 0) (-1))) _ _ s
  rw [gh_places]
  exact wpAny_pure h
theorem gh_pick_list (xs : List Value) : ((List.range (xs.length - 1)).filterMap fun (m : Nat) => xs[(((xs.length : Nat) : Int) - 1 + (m : Int) * -1).toNat]?) = (xs.drop 1).reverse := by
  have gen : ∀ k, k ≤ xs.length - 1 → ((List.range k).filterMap fun (m : Nat) => xs[(((xs.length : Nat) : Int) - 1 + (m : Int) * -1).toNat]?) = (xs.drop (xs.length - k)).reverse := by
    intro k
    induction k with
    | zero => intro _; simp
    | succ k ih =>
      intro hk
      rw [List.range_succ, List.filterMap_append, ih (by omega)]
      have e : (((xs.length : Nat) : Int) - 1 + (k : Int) * -1).toNat = xs.length - (k + 1) := by omega
      have hlt : xs.length - (k + 1) < xs.length := by omega
      simp only [List.filterMap_cons, e, List.getElem?_eq_getElem hlt, List.filterMap_nil]
      have d := List.drop_eq_getElem_cons hlt
      rw [d, show xs.length - (k + 1) + 1 = xs.length - k by omega]
      simp
  have := gen (xs.length - 1) (Nat.le_refl _)
  rw [this]
  cases xs with
  | nil => rfl
  | cons a l => simp
theorem gh_pick (xs : Array Value) : ((List.range (xs.size - 1)).filterMap fun (m : Nat) => xs[((xs.size : Int) - 1 + (m : Int) * -1).toNat]?).toArray = ((xs.toList.drop 1).reverse).toArray := by
  have := gh_pick_list xs.toList
  simp only [Array.length_toList, Array.getElem?_toList] at this
  rw [this]
theorem gh_getItem {t sl : Addr} {items : Array Value} {vl vu vs : Value} {Q : Value → Shared → Prop} (ht : IsTup s.heap t items) (hs : s.heap.IsSliceOf sl vl vu vs) (pl : IsPart vl none) (pu : IsPart vu (some 0)) (ps : IsPart vs (some (-1)))
    (h : Q (.ref s.heap.objs.size) { s with heap := s.heap.push { cls := .type "tuple", data := .seq ((items.toList.drop 1).reverse).toArray } })
    (hsz : items.size ≤ sizeLine) : wpAny (model prog w) A (getItem (.ref t) (.ref sl)) Q E s := by
  have htake : sizeOk (.seq ((items.toList.drop 1).reverse).toArray) := by
    show ((items.toList.drop 1).reverse).toArray.size ≤ sizeLine
    rw [List.size_toArray, List.length_reverse, List.length_drop, Array.length_toList]
    omega
  obtain ⟨os, hos, hcs, hds⟩ := id hs
  have hTs : s.TypeIs (.ref sl) "slice" := ⟨os, hos, hcs⟩
  unfold getItem
  try with_reducible refine wpAny_holding ?_
  first | refine wpAny_bind (wpAny_pure ?_) | skip
  refine wpAny_bind (wpAny_sequenceKey ht.typeIs (by decide) ?_)
  refine wpAny_bind (wpAny_callSpecial?_slot (name := Str.ofString "__getitem__") ht.typeIs PyProof.Rows.slot_tuple_getitem
    (wpAny_call_entry PyProof.Rows.slot_tuple_getitem ht.typeIs entry_tuple_getitem ?_ (args_tuple_getitem _ _)))
  show wpAny _ _ (Builtin.Tuple.tupleItemsOf (.ref t) >>= _) _ _ s
  refine wpAny_bind (tupleItemsOf_ ht ?_)
  refine wpAny_bind (wpAny_typeOf hTs ?_)
  rw [if_pos (by decide)]
  refine wpAny_bind (gh_applied hs pl pu ps ?_)
  have hno : ¬ ((((items.size : Int) - 1) == 0 && (-1 : Int) == 1 && (items.size - 1) == items.size) = true) := by
    intro q
    rw [Bool.and_eq_true, Bool.and_eq_true] at q
    exact absurd (eq_of_beq q.1.2) (by decide)
  show wpAny _ _ (if (((items.size : Int) - 1) == 0 && (-1 : Int) == 1 && (items.size - 1) == items.size) = true then _ else _) _ _ s
  rw [if_neg hno, gh_pick]
  first
    | exact wpAny_bind (m := Builtin.Tuple.tupleExact _) (wpAny_newObj_type (wpAny_pure ⟨_, rfl, wpAny_pure h⟩) htake)
    | exact wpAny_bind (m := Builtin.Tuple.tupleExact _) (wpAny_newObj_type (wpAny_bind (wpAny_pure (wpAny_pure ⟨_, rfl, wpAny_pure h⟩))) htake)
    | exact wpAny_bind (wpAny_bind (m := Builtin.Tuple.tupleExact _) (wpAny_newObj_type (wpAny_pure (wpAny_pure ⟨_, rfl, wpAny_pure h⟩)) htake))
    | exact wpAny_bind (wpAny_bind (m := Builtin.Tuple.tupleExact _) (wpAny_newObj_type (wpAny_pure ⟨_, rfl, wpAny_pure h⟩) htake))
end
end HT
namespace GH
open PySem PySem.Spec PyProof.Rows L2
section
variable {X : Cx} {W : WX}
def vBack (v : Val) (h : Hv) : Res Val := match v with
  | .tup l => .ok (.tup (l.drop 1).reverse) h
  | _ => .fail
def tBack (K : PySem.W.Frag) (te : TE) : TE := fun σ H Q => te σ H fun x H1 => ∃ a xs, x = .ref a ∧ SqT K H1 a xs ∧ ∀ p, H1 p = none → Q (.ref p) (upd H1 p (.tup (xs.drop 1).reverse))
theorem pe_back {e : Expr} {te : TE} {k k0 : Nat} {p0 p1 p2 p3 pos : Pos} (he : PE X e te) : PE X (.Subscript e (.Slice none (some (.Constant (.int 0) k0 p0)) (some (.UnaryOp .USub (.Constant (.int 1) k p1) p2)) p3) pos) (tBack X.K te) := by
  refine ⟨fun pins s σ H Q I h => ?_⟩
  refine Subscript_ (thn (he.run pins s σ H _ I h) fun v s1 ⟨x, H1, I1, r1, q1⟩ => ?_)
  obtain ⟨a, xs, ex, hx, q⟩ := q1
  subst ex
  cases r1
  have hst : PO X (some (.UnaryOp .USub (.Constant (.int 1) k p1) p2)) (tPart (tUn (rU fun i => .int (-i)) (tC (.int 1)))) := po_some (pe_un un_neg pe_int)
  have hup : PO X (some (.Constant (.int 0) k0 p0)) (tPart (tC (.int 0))) := po_some pe_int
  refine wpAny_Slice (thn (po_none.run pins s1 σ H1 (fun o H2 => o = none ∧ H2 = H1) I1 ⟨rfl, rfl⟩) fun vl s2 ⟨l, H2, I2, pl, el, e2⟩ => ?_)
  subst el e2
  refine thn (hup.run pins s2 σ H2 (fun o H3 => o = some 0 ∧ H3 = H2) I2 ⟨0, rfl, rfl, rfl⟩) fun vu s3 ⟨u, H3, I3, pu, eu, e3⟩ => ?_
  subst eu e3
  refine thn (hst.run pins s3 σ H3 (fun o H4 => o = some (-1) ∧ H4 = H3) I3 ⟨1, rfl, -1, rfl, rfl, rfl⟩) fun vs s4 ⟨o, H4, I4, ps, eo, e4⟩ => ?_
  subst eo e4
  have I5 : Inv X pins σ H4 { s4 with heap := s4.heap.push { cls := .type "slice", data := .fields #[vl, vu, vs] } } := I4.kept (t' := s4.toks) fun b ob q => Heap.get?_push_of_some _ q
  obtain ⟨its, r, ht, hz⟩ := I5.tuple hx
  have hlen := r.length
  refine tail_any (ops := [.ref a, .ref s4.heap.objs.size]) ht.typeIs (PyProof.Rows.slot_tuple_getitem.lookup) ?_ (by with_unfolding_all rfl)
  refine HT.gh_getItem ht (Heap.IsSliceOf.new _ vl vu vs) pl pu ps ?_ (by rw [List.size_toArray]; omega)
  refine ⟨.ref _, _, I5.laid (t' := s4.toks) (o := .tup (xs.drop 1).reverse) (fun b ob q => Heap.get?_push_of_some _ q) (Nat.le_refl _) ?_, rfl, q _ (I5.hok.fresh (Nat.le_refl _))⟩
  exact ⟨by rw [List.length_reverse, List.length_drop]; omega, _, (r.drop 1).reverse, IsTup.new _ _⟩
theorem ge_back {e : Expr} {d : Den} {k k0 : Nat} {p0 p1 p2 p3 pos : Pos} (he : GE X W e d) : GE X W (.Subscript e (.Slice none (some (.Constant (.int 0) k0 p0)) (some (.UnaryOp .USub (.Constant (.int 1) k p1) p2)) p3) pos) (dFn vBack d) := by
  refine PE.imp (pe_back he) fun σ H Q ⟨g, l, h, S, R, A⟩ => ?_
  refine tG_of S R A fun v h1 g1 H1 x E S1 R1 r1 A1 => ?_
  unfold vBack at A1
  split at A1
  · have r1 : VR X.K g1 H1 (.tup _) x := r1
    simp only [VR] at r1
    obtain ⟨a, xs, rfl, hq, rs⟩ := r1
    refine ⟨a, xs, rfl, hq, fun p np => ?_⟩
    obtain ⟨E4, R4⟩ := R1.grow (o := .tup (xs.drop 1).reverse) np
    refine A1 g1 _ (.ref p) E4 R4 ?_
    simp only [VR]
    exact ⟨p, _, rfl, SqT.of upd_same, ((rs.drop 1).reverse).ext R1 E4⟩
  · exact A1.elim
end
end GH
set_option Elab.async false
set_option linter.all false
set_option maxRecDepth 100000
set_option maxHeartbeats 4000000
set_option autoImplicit false
/-! sets of texts: made of a tuple or a list, walked, sorted. -/
namespace GH
open PySem PySem.Spec PyProof.Rows L2
def keyS (e : Int × Value) : Str := match e.2 with | .str k _ => k | _ => Str.empty
def GoodS (w : World) (e : Int × Value) : Prop := ∃ k tk, e.2 = Value.str k tk ∧ e.1 = hashStr w k
/-- the set of texts at a, its members L -/
def SetS (w : World) (h : Heap) (a : Addr) (L : List Str) : Prop :=
  ∃ o es ep t, h.get? a = some o ∧ o.ExactSet ∧ o.data = .set es ep t ∧ (∀ e ∈ es.toList, GoodS w e) ∧ (es.toList.map keyS).Perm L ∧ L.Nodup ∧
    es.size < scanBound ∧ t.fits es.size = true ∧ Ris t.place.toList ∧ (w.params.followText "set-order" = true ∨ t.led = true)
def addS (L : List Str) (k : Str) : List Str := if k ∈ L then L else L ++ [k]
def ddS (xs : List Str) : List Str := xs.foldl addS []
section
variable {P : Program} {w : World} {h h' : Heap} {a : Addr} {L : List Str}
theorem SetS.at (R : SetS w h a L) (k : ∀ o, h.get? a = some o → h'.get? a = some o) : SetS w h' a L := by
  obtain ⟨o, es, ep, t, ho, r⟩ := R
  exact ⟨o, es, ep, t, k o ho, r⟩
theorem goodS_elems {l : List (Int × Value)} (g : ∀ e ∈ l, GoodS w e) : ElemsOf (PySem.strKind P w) l := fun e he => by
  obtain ⟨k, tk, h1, h2⟩ := g e he
  exact ⟨⟨k, by rw [h1]; exact strKind_is P w k tk, h2⟩, by rw [h1] <;> rfl⟩
theorem goodS_is {e : Int × Value} (g : GoodS w e) (k : Str) : (PySem.strKind P w).is k e.2 = true ↔ keyS e = k := by
  obtain ⟨k0, tk, h1, _⟩ := g
  unfold keyS
  rw [h1]
  constructor
  · intro z
    exact (PySem.strKind P w).inj (.str k0 tk) k0 k (strKind_is P w k0 tk) z
  · rintro rfl
    exact strKind_is P w k0 tk
theorem goodS_mem {l : List (Int × Value)} (g : ∀ e ∈ l, GoodS w e) (k : Str) : k ∈ l.map keyS ↔ ∃ e ∈ l, (PySem.strKind P w).is k e.2 = true := by
  rw [List.mem_map]
  constructor
  · rintro ⟨e, he, q⟩
    exact ⟨e, he, (goodS_is (g e he) k).2 q⟩
  · rintro ⟨e, he, q⟩
    exact ⟨e, he, (goodS_is (g e he) k).1 q⟩
theorem addS_nodup {k : Str} (nd : L.Nodup) : (addS L k).Nodup := by
  unfold addS
  split
  · exact nd
  · rename_i c
    refine List.nodup_append.mpr ⟨nd, by simp, fun x hx y hy => ?_⟩
    rw [List.mem_singleton.mp hy]
    rintro rfl
    exact c hx
end
section
variable {P : Program} {w : World} {A : Around} {E : Value → Shared → Prop} {s : Shared} {a : Addr} {L : List Str}
theorem setS_add_tail {g : Bool → Sem Unit} (hg : ∀ (b : Bool) (s₁ : Shared) (Q' : Unit → Shared → Prop), Q' () s₁ → wpAny (model P w) A (g b) Q' E s₁)
    {o : Obj} {es : Array (Int × Value)} {ep : Nat} {t : SetTable} (ho : s.heap.get? a = some o) (hex : o.ExactSet) (hd : o.data = .set es ep t)
    {es1 : Array (Int × Value)} {t2 : SetTable} (g1 : ∀ e ∈ es1.toList, GoodS w e) (p1 : (es1.toList.map keyS).Perm L) (nd1 : L.Nodup)
    (hb1 : es1.size < scanBound) (hf2 : t2.fits es1.size = true) (hr : Ris t2.place.toList) (hl : w.params.followText "set-order" = true ∨ t2.led = true) {wasDummy : Bool} {R : Option Bool → Shared → Prop}
    (hR : ∀ h', Heap.SameBut a s.heap h' → SetS w h' a L → R (some true) { s with heap := h' }) :
    wpAny (model P w) A (do
        storeSet a es1 t2
        if (!wasDummy && t2.tooFull) = true then do
            g (relayAll t2 es1 (SetTable.grown es1.size)).2.2
            storeSet a (relayAll t2 es1 (SetTable.grown es1.size)).1 (relayAll t2 es1 (SetTable.grown es1.size)).2.1
            pure (some true)
          else pure (some true)) R E s := by
  refine wpAny_bind (wpAny_storeSet_of ho hd ?_ (fits_of_scanBound hb1))
  have ho1 := store_at (es' := es1) (t' := t2) ho hd
  have sb1 := Heap.SameBut.update s.heap a (Obj.putSet es1 t2)
  split
  · have pm := relayAll_perm t2 es1 (SetTable.grown es1.size)
    have hf3 := relayAll_fits t2 es1 (SetTable.grown es1.size)
    have hr3 := relayAll_ris t2 es1 (SetTable.grown es1.size)
    have hl3 := relayAll_led t2 es1 (SetTable.grown es1.size)
    generalize relayAll t2 es1 (SetTable.grown es1.size) = Z at pm hf3 hr3 hl3 ⊢
    obtain ⟨es2, t3, gave⟩ := Z
    dsimp only at pm hf3 hr3 hl3 ⊢
    have hsz : es2.size = es1.size := by rw [← Array.length_toList, pm.length_eq, Array.length_toList]
    have hb2 : es2.size < scanBound := by rw [hsz]; exact hb1
    refine wpAny_bind (hg _ _ _ ?_)
    refine wpAny_bind (wpAny_storeSet_of ho1 rfl ?_ (fits_of_scanBound hb2))
    have ho2 := store_at (es' := es2) (t' := t3) ho1 rfl
    refine wpAny_pure (hR _ (sb1.trans (Heap.SameBut.update _ a _)) ?_)
    exact ⟨_, es2, _, t3, ho2, hex, rfl, fun e he => g1 e (pm.mem_iff.mp he), (pm.map keyS).trans p1, nd1, hb2, hf3, hr3, hl.imp id fun z => by rw [hl3]; exact z⟩
  · exact wpAny_pure (hR _ sb1 ⟨_, es1, _, t2, ho1, hex, rfl, g1, p1, nd1, hb1, hf2, hr, hl⟩)
theorem setS_add_hashed {k : Str} {tk : Tok} {Q : Bool → Shared → Prop} (R : SetS w s.heap a L) (room : L.length + 1 < scanBound)
    (hQ : ∀ h' b, Heap.SameBut a s.heap h' → SetS w h' a (addS L k) → Q b { s with heap := h' }) :
    wpAny (model P w) A (setAddHashed a (.str k tk) (hashStr w k)) Q E s := by
  obtain ⟨o, es, ep, t, ho, hex, hd, g, pL, nd, hb, hf, hr, hl⟩ := R
  have hkey : (PySem.strKind P w).is k (.str k tk) = true := strKind_is P w k tk
  have hsc : (Value.str k tk).scannable = true := rfl
  have hel : ElemsOf (PySem.strKind P w) es.toList := goodS_elems g
  unfold setAddHashed setAddHashedIn
  refine wpAny_holding (wpAny_bind (wpAny_setState_of ho hd hf ?_))
  dsimp only
  rw [byScan_of hsc hb hel]
  simp only [↓reduceIte]
  unfold setAddByScan
  refine wpAny_bind ?_
  refine wpAny_bind (wpAny_rule ?_)
  refine wpAny_bind (wpAny_setScan_of (knd := PySem.strKind P w) (k := k) hkey ho hd hf hel ?_)
  cases hfi : List.findIdx? (fun e => (PySem.strKind P w).is k e.2) es.toList with
  | some j =>
    dsimp only
    obtain ⟨hj, pj, _⟩ := List.findIdx?_eq_some_iff_getElem.mp hfi
    have hk : k ∈ L := pL.mem_iff.mp ((goodS_mem (P := P) (w := w) g k).2 ⟨es.toList[j], List.getElem_mem hj, pj⟩)
    refine wpAny_pure (wpAny_pure ?_)
    exact hQ s.heap _ (Heap.SameBut.refl a s.heap) (by unfold addS; rw [if_pos hk]; exact ⟨o, es, ep, t, ho, hex, hd, g, pL, nd, hb, hf, hr, hl⟩)
  | none =>
    dsimp only
    have hnk : k ∉ L := fun z => by
      obtain ⟨e, he, q⟩ := (goodS_mem (P := P) (w := w) g k).1 (pL.mem_iff.mpr z)
      have c := List.findIdx?_eq_none_iff.mp hfi e he
      rw [q] at c
      cases c
    have hgw : ∀ (b : Bool) {s₁ : Shared} {Q' : Unit → Shared → Prop}, Q' () s₁ → wpAny (model P w) A (match b with | true => rule "set.scan.the-table-gave-way" | false => pure ()) Q' E s₁ :=
      fun b s₁ Q' q => by cases b <;> first | exact wpAny_pure q | exact wpAny_rule q
    have pm := layNew_perm t es (hashStr w k) (.str k tk)
    have hf1 := layNew_fits t es (hashStr w k) (.str k tk)
    have hr1 := layNew_ris t es (hashStr w k) (.str k tk) hr
    have hl1 := layNew_led t es (hashStr w k) (.str k tk)
    generalize layNew t es (hashStr w k) (.str k tk) = Z at pm hf1 hr1 hl1 ⊢
    obtain ⟨es1, t1, wasDummy, gave⟩ := Z
    dsimp only at pm hf1 hr1 hl1 ⊢
    rw [Array.toList_push] at pm
    have pc : es1.toList.Perm ((hashStr w k, Value.str k tk) :: es.toList) := pm.trans (List.perm_append_singleton _ _)
    have pk : (es1.toList.map keyS).Perm (addS L k) := by
      unfold addS
      rw [if_neg hnk]
      exact (pc.map keyS).trans (List.Perm.trans (List.Perm.cons _ pL) (List.perm_append_singleton _ _).symm)
    have g1 : ∀ e ∈ es1.toList, GoodS w e := fun e he => by
      rcases List.mem_cons.mp (pc.mem_iff.mp he) with z | z
      · rw [z]; exact ⟨k, tk, rfl, rfl⟩
      · exact g e z
    have nd1 : (addS L k).Nodup := addS_nodup nd
    have hLs : es.size = L.length := by rw [← pL.length_eq, List.length_map, Array.length_toList]
    have hsz : es1.size = L.length + 1 := by rw [← Array.length_toList, pc.length_eq, List.length_cons, Array.length_toList, hLs]
    have hb1 : es1.size < scanBound := by rw [hsz]; exact room
    have hled : w.params.followText "set-order" = true ∨ t1.led = true := hl.imp id fun z => by rw [hl1]; exact z
    refine wpAny_bind (hgw _ ?_)
    split
    · refine wpAny_bind ?_
      rw [hashByValue_scannable 8 hsc]
      refine wpAny_pure ?_
      refine setS_add_tail ?_ ho hex hd g1 pk nd1 hb1 ?_ ?_ ?_ ?_
      · intro b s₁ Q' q; cases b <;> first | exact wpAny_pure q | exact wpAny_rule q
      · first | (split <;> first | exact hf1 | exact SetTable.fits_plain_off hf1) | exact hf1
      · first | (split <;> exact hr1) | exact hr1
      · first | (split <;> exact hled) | exact hled
      · intro h' sb r; dsimp only; exact wpAny_pure (hQ h' _ sb r)
    · refine wpAny_bind (wpAny_pure ?_)
      simp only [↓reduceIte]
      refine setS_add_tail ?_ ho hex hd g1 pk nd1 hb1 hf1 hr1 hled ?_
      · intro b s₁ Q' q; cases b <;> first | exact wpAny_pure q | exact wpAny_rule q
      · intro h' sb r; dsimp only; exact wpAny_pure (hQ h' _ sb r)
theorem setS_new_at {h : Heap} (ho : h.get? a = some { cls := .type "set", dict := none, data := .set #[] 0 (.fresh 0 0 (!w.params.followText "set-order")) }) : SetS w h a [] :=
  ⟨_, #[], 0, _, ho, ⟨rfl, rfl, rfl⟩, rfl, (fun e he => by simp at he), List.Perm.refl _, List.nodup_nil, (by decide), (by rfl), List.Pairwise.nil, by
    show _ ∨ (!w.params.followText "set-order") = true
    cases w.params.followText "set-order"
    · exact .inr rfl
    · exact .inl rfl⟩
theorem addS_len (L : List Str) (k : Str) : (addS L k).length ≤ L.length + 1 := by
  unfold addS
  split
  · omega
  · simp
theorem ddS_len_aux : ∀ (xs L : List Str), (xs.foldl addS L).length ≤ L.length + xs.length
  | [], L => by simp
  | x :: xs, L => by
    have := ddS_len_aux xs (addS L x)
    have := addS_len L x
    simp only [List.foldl_cons, List.length_cons]
    omega
theorem ddS_len (xs : List Str) : (ddS xs).length ≤ xs.length := by
  have := ddS_len_aux xs []
  simpa [ddS] using this
theorem set_update_txt {I : Addr} {fp wr : List Addr} {G : Array GenState → Array GenState → Prop} {n : Nat} {Pv : Nat → Value → Prop} {St : Nat → Shared → Prop} {R : Result → Shared → Prop}
    (W : WalksS P w A.in1 I fp wr G n Pv St) (S : Addr) (hSf : S ∉ fp) (ns : List Str) (hn : n = ns.length) (hb : ns.length + 1 < scanBound) (hval : ∀ i v, Pv i v → ∃ k t, ns[i]? = some k ∧ v = .str k t) :
    ∀ (k i : Nat) (s : Shared), n - i = k → i ≤ n → St i s → SetS w s.heap S (ddS (ns.take i)) →
      (∀ s', Moved (S :: wr) G s s' → SetS w s'.heap S (ddS ns) → R (.ok (.ret .none)) s') →
      codeAny (model P w) A (.builtin "set.update.loop" ⟨[.ref S, .ref I], []⟩) R s := by
  have hSw : S ∉ wr := fun h => hSf (W.sub _ h)
  have hsub : ∀ b ∈ wr, b ∈ S :: wr := fun b hb => List.mem_cons_of_mem _ hb
  intro k
  induction k with
  | zero =>
    intro i s hk' hi hst hS hR
    have hin : i = n := by omega
    subst hin
    refine codeAny_builtin F.entry_set_update_loop ?_
    rw [Around.under_plainId F.plain_set_update_loop _]
    show wpAny _ A.in1 (pyNext (.ref I) >>= _) _ _ s
    refine wpAny_bind (W.done s _ _ hst fun s' hm => ?_)
    show wpAny _ A.in1 (ret Value.none) _ _ s'
    have e : ns.take i = ns := List.take_of_length_le (by omega)
    rw [e] at hS
    exact wpAny_pure (hR s' (hm.mono hsub) (hS.at fun o e => hm.heap S o hSw e))
  | succ k ih =>
    intro i s hk' hi hst hS hR
    have hlt : i < n := by omega
    refine codeAny_builtin F.entry_set_update_loop ?_
    rw [Around.under_plainId F.plain_set_update_loop _]
    show wpAny _ A.in1 (pyNext (.ref I) >>= _) _ _ s
    refine wpAny_bind (W.item i s _ _ hlt hst fun v s' hP hst' hm => ?_)
    obtain ⟨z, t, hz, rfl⟩ := hval i v hP
    have hS' : SetS w s'.heap S (ddS (ns.take i)) := hS.at fun o e => hm.heap S o hSw e
    show wpAny _ A.in1 (holding [Value.str z t] (setAdd S (.str z t)) >>= _) _ _ s'
    refine wpAny_bind (wpAny_holding ?_)
    unfold setAdd
    refine wpAny_holding ?_
    refine wpAny_bind ((PySem.strKind P w).pyHash (k := z) (strKind_is _ _ _ _) ?_)
    have hlen : (ddS (ns.take i)).length + 1 < scanBound := by
      have := ddS_len (ns.take i)
      rw [List.length_take] at this
      omega
    refine setS_add_hashed (s := { s' with toks := s'.toks + 1 }) hS' hlen fun h' b hsb hS2 => ?_
    have hS3 : SetS w h' S (ddS (ns.take (i + 1))) := by
      have e : ddS (ns.take (i + 1)) = addS (ddS (ns.take i)) z := by
        rw [List.take_add_one, hz]
        simp [ddS, List.foldl_append]
      rw [e]
      exact hS2
    refine wpAny_pure ⟨plainId_quiet F.plain_set_update_loop _, ih (i + 1) _ (by omega) hlt (W.frame _ s' _ _ hst' (Nat.le_succ _) fun b hb o e => ?_) hS3 fun s'' hm'' hS'' => ?_⟩
    · rw [hsb.2 b (fun h : b = S => hSf (by rw [← h]; exact hb))]; exact e
    · refine hR s'' (Moved.trans W.gtrans ((hm.mono hsub).then_heap (Nat.le_succ _) fun b o hb e => ?_) hm'') hS''
      rw [hsb.2 b (fun h : b = S => hb (by rw [h]; exact List.mem_cons_self))]; exact e
end
end GH
set_option Elab.async false
set_option linter.all false
set_option maxRecDepth 100000
set_option maxHeartbeats 4000000
set_option autoImplicit false
/-! set(xs) of a tuple or a list of texts. -/
namespace GH
open PySem PySem.Spec PyProof.Rows L2
section
variable {P : Program} {w : World} {A : Around} {E : Value → Shared → Prop} {s : Shared}

set_option maxRecDepth 100000 in
set_option maxHeartbeats 3200000 in
theorem call_setSTup {l : Addr} {items : Array Value} (ns : List Str) {Q : Value → Shared → Prop} (hh : A.handled = none) (hl : s.heap.IsTuple l items) (hit : StrsAre items.toList ns) (hb : ns.length + 1 < scanBound)
    (h : ∀ (h' : Heap) (tk : Nat), SetS w h' s.heap.objs.size (ddS ns) → (∀ b o, s.heap.get? b = some o → h'.get? b = some o) → Q (.ref s.heap.objs.size) { s with heap := h', toks := tk }) :
    wpAny (model P w) A (call (.type "set") [.ref l]) Q E s := by
  have hisz : items.size = ns.length := by
    have q := StrsAre.len_eq hit
    rw [Array.length_toList] at q
    exact q
  obtain ⟨c, tl, hmro⟩ := F.called_set.mro
  have hmade := F.called_set.made
  have hsub := F.called_set.sub
  refine wpAny_call (codeAny_of_tree ?_)
  show wpAny _ _ (callAny (.type "set") _) _ _ _
  refine wpAny_pure ⟨Code.quiet_builtin _ (by decide +kernel), codeAny_builtin F.entry_type_call ?_⟩
  rw [Around.under_plain (weight_type_call_type "set" [.ref l] []) rfl]
  have h1 := F.called_set.notType
  have h2 := F.called_set.canCreate
  have hct := F.typeCall_set_1 (.ref l)
  repeat (any_goals (first | assumption | wp_step))

  refine codeAny_mono (code_set_led1 (.ref l) (E := E) (Q₁ := fun obj s₁ => obj = .ref s.heap.objs.size ∧ s₁ = { s with heap := s.heap.push { cls := .type "set", dict := none, data := .set #[] 0 (.fresh 0 0 (!w.params.followText "set-order")) } }) ⟨rfl, rfl⟩) fun r s₁ hr => ?_
  cases r with
  | error e => exact hr
  | ok fl =>
    cases fl with
    | ret obj =>
      obtain ⟨rfl, rfl⟩ := hr
      have hS : (s.heap.push { cls := .type "set", dict := none, data := .set #[] 0 (.fresh 0 0 (!w.params.followText "set-order")) }).get? s.heap.objs.size = some { cls := .type "set", dict := none, data := .set #[] 0 (.fresh 0 0 (!w.params.followText "set-order")) } := Heap.get?_push_size _ rfl
      have hT : Shared.TypeIs { s with heap := s.heap.push { cls := .type "set", dict := none, data := .set #[] 0 (.fresh 0 0 (!w.params.followText "set-order")) } } (.ref s.heap.objs.size) "set" := ⟨_, hS, rfl⟩
      have hli := F.called_set.init.lookup
      have hbi := F.called_set.init.bind (.ref s.heap.objs.size)
      repeat (any_goals (first | assumption | wp_step))

      refine codeAny_mono (codeAny_call_builtin (R := wants (fun r s₂ => r = .none ∧ ∃ h' tk, s₂ = { s with heap := h', toks := tk } ∧ SetS w h' s.heap.objs.size (ddS ns) ∧
          (∀ b o, s.heap.get? b = some o → h'.get? b = some o)) E) F.called_set.init.plain F.entry_set_init (check_set_init_1 hT ?_)) fun r₂ s₂ hr₂ => ?_
      · obtain ⟨ol, hol, hcl, nl, hdl⟩ := hl
        obtain ⟨ocls, odict, odata, oslots⟩ := ol
        simp only at hcl hdl
        subst hcl; subst hdl
        have hol' : (s.heap.push { cls := .type "set", dict := none, data := .set #[] 0 (.fresh 0 0 (!w.params.followText "set-order")) }).get? l = some { cls := .type "tuple", dict := odict, data := .seq items nl, slots := oslots } := Heap.get?_push_of_some _ hol
        have hsls := F.sub_tuple_set
        have hslf := F.sub_tuple_frozenset
        have hne : (Value.type "tuple" == Value.type "dict") = false := by decide
        have hl1 : (s.heap.push { cls := .type "set", dict := none, data := .set #[] 0 (.fresh 0 0 (!w.params.followText "set-order")) }).IsTuple l items := ⟨_, hol', rfl, nl, rfl⟩
        unfold Builtin.«set.__init__» noKeywords Builtin.Frozenset.updateFrom
        generalize hPI : pyIter = PI
        wp_walk
        subst hPI

        refine wpAny_pyIter_tuple hl1 ?_
        refine wpAny_bind (wpAny_runValue ?_)
        have hlS : l < s.heap.objs.size := Heap.lt_size hol
        have hh3 : A.in1.in1.in1.handled = none := by simp [hh]
        have hz1 : (s.heap.push { cls := .type "set", dict := none, data := .set #[] 0 (.fresh 0 0 (!w.params.followText "set-order")) }).objs.size = s.heap.objs.size + 1 := Heap.size_push ..
        have hneI : l ≠ (s.heap.push { cls := .type "set", dict := none, data := .set #[] 0 (.fresh 0 0 (!w.params.followText "set-order")) }).objs.size := by
          rw [Heap.size_push]; exact Nat.ne_of_lt (Nat.lt_succ_of_lt hlS)
        have hSf : s.heap.objs.size ∉ [(s.heap.push { cls := .type "set", dict := none, data := .set #[] 0 (.fresh 0 0 (!w.params.followText "set-order")) }).objs.size, l] := by
          rw [Heap.size_push]; simp only [List.mem_cons, List.mem_singleton, List.not_mem_nil, or_false, not_or]
          exact ⟨Nat.ne_of_lt (Nat.lt_succ_self _), Nat.ne_of_gt hlS⟩
        have hval : ∀ (i : Nat) (v : Value), items[i]? = some v → ∃ k t, ns[i]? = some k ∧ v = .str k t := fun i v hv => by
          have hi : i < ns.length := by rw [← hisz]; exact (Array.getElem?_eq_some_iff.mp hv).1
          obtain ⟨t, e⟩ := SS.strs_at hit i v (by rw [Array.getElem?_toList]; exact hv)
          refine ⟨ns[i], t, List.getElem?_eq_getElem hi, ?_⟩
          rw [e, List.getD_eq_getElem?_getD, List.getElem?_eq_getElem hi] <;> rfl
        refine set_update_txt ((Walks.tuple hh3 _ l hneI items).toS) s.heap.objs.size
          hSf ns hisz hb hval (items.size - 0) 0 _ (by omega) (Nat.zero_le _)
          ⟨⟨_, Heap.get?_push_size _ rfl, rfl, rfl⟩, (hl1.push _)⟩ ?hS0 ?hR
        case hS0 =>
          have hget : ((s.heap.push { cls := .type "set", dict := none, data := .set #[] 0 (.fresh 0 0 (!w.params.followText "set-order")) }).push { cls := .type "tuple_iterator", data := .fields #[.ref l, .int 0 0] }).get? s.heap.objs.size
              = some { cls := .type "set", dict := none, data := .set #[] 0 (.fresh 0 0 (!w.params.followText "set-order")) } := Heap.get?_push_of_some _ hS
          exact setS_new_at hget
        case hR =>
          intro s' hm hS'
          obtain ⟨h', g2, d', tk', os'⟩ := s'
          have eg : g2 = s.gens := hm.gens
          have ed : d' = s.drawn := hm.drawn
          have eo : os' = s.os := hm.os
          subst eg; subst ed; subst eo
          show wpAny _ _ _ _ _ _
          refine wpAny_pure ?_
          show wpAny _ _ (ret Value.none) _ _ _
          refine wpAny_pure ⟨rfl, h', tk', rfl, hS', fun b o e => ?_⟩
          have hb0 : b < s.heap.objs.size := Heap.lt_size e
          have hb1 : b ≠ s.heap.objs.size := Nat.ne_of_lt hb0
          have hb2 : b ≠ (s.heap.push { cls := .type "set", dict := none, data := .set #[] 0 (.fresh 0 0 (!w.params.followText "set-order")) }).objs.size := by
            rw [Heap.size_push]; exact Nat.ne_of_lt (Nat.lt_succ_of_lt hb0)
          exact hm.heap b o (by simp only [List.mem_cons, List.mem_singleton, List.not_mem_nil, or_false, not_or]; exact ⟨hb1, hb2⟩) (Heap.get?_push_of_some _ (Heap.get?_push_of_some _ e))

      · cases r₂ with
        | error e => exact hr₂
        | ok fl₂ =>
          cases fl₂ with
          | ret r =>
            obtain ⟨rfl, h', tk, rfl, hS', hk'⟩ := hr₂
            repeat (any_goals (first | assumption | wp_step))
            exact h _ _ hS' hk'
          | _ => exact hr₂.elim
    | _ => exact hr.elim

set_option maxRecDepth 100000 in
set_option maxHeartbeats 3200000 in
theorem call_setSLst {l : Addr} {items : Array Value} (ns : List Str) {Q : Value → Shared → Prop} (hh : A.handled = none) (hl : s.heap.IsList l items) (hit : StrsAre items.toList ns) (hb : ns.length + 1 < scanBound)
    (h : ∀ (h' : Heap) (tk : Nat), SetS w h' s.heap.objs.size (ddS ns) → (∀ b o, s.heap.get? b = some o → h'.get? b = some o) → Q (.ref s.heap.objs.size) { s with heap := h', toks := tk }) :
    wpAny (model P w) A (call (.type "set") [.ref l]) Q E s := by
  have hisz : items.size = ns.length := by
    have q := StrsAre.len_eq hit
    rw [Array.length_toList] at q
    exact q
  obtain ⟨c, tl, hmro⟩ := F.called_set.mro
  have hmade := F.called_set.made
  have hsub := F.called_set.sub
  refine wpAny_call (codeAny_of_tree ?_)
  show wpAny _ _ (callAny (.type "set") _) _ _ _
  refine wpAny_pure ⟨Code.quiet_builtin _ (by decide +kernel), codeAny_builtin F.entry_type_call ?_⟩
  rw [Around.under_plain (weight_type_call_type "set" [.ref l] []) rfl]
  have h1 := F.called_set.notType
  have h2 := F.called_set.canCreate
  have hct := F.typeCall_set_1 (.ref l)
  repeat (any_goals (first | assumption | wp_step))

  refine codeAny_mono (code_set_led1 (.ref l) (E := E) (Q₁ := fun obj s₁ => obj = .ref s.heap.objs.size ∧ s₁ = { s with heap := s.heap.push { cls := .type "set", dict := none, data := .set #[] 0 (.fresh 0 0 (!w.params.followText "set-order")) } }) ⟨rfl, rfl⟩) fun r s₁ hr => ?_
  cases r with
  | error e => exact hr
  | ok fl =>
    cases fl with
    | ret obj =>
      obtain ⟨rfl, rfl⟩ := hr
      have hS : (s.heap.push { cls := .type "set", dict := none, data := .set #[] 0 (.fresh 0 0 (!w.params.followText "set-order")) }).get? s.heap.objs.size = some { cls := .type "set", dict := none, data := .set #[] 0 (.fresh 0 0 (!w.params.followText "set-order")) } := Heap.get?_push_size _ rfl
      have hT : Shared.TypeIs { s with heap := s.heap.push { cls := .type "set", dict := none, data := .set #[] 0 (.fresh 0 0 (!w.params.followText "set-order")) } } (.ref s.heap.objs.size) "set" := ⟨_, hS, rfl⟩
      have hli := F.called_set.init.lookup
      have hbi := F.called_set.init.bind (.ref s.heap.objs.size)
      repeat (any_goals (first | assumption | wp_step))

      refine codeAny_mono (codeAny_call_builtin (R := wants (fun r s₂ => r = .none ∧ ∃ h' tk, s₂ = { s with heap := h', toks := tk } ∧ SetS w h' s.heap.objs.size (ddS ns) ∧
          (∀ b o, s.heap.get? b = some o → h'.get? b = some o)) E) F.called_set.init.plain F.entry_set_init (check_set_init_1 hT ?_)) fun r₂ s₂ hr₂ => ?_
      · obtain ⟨ol, hol, hcl, nl, hdl⟩ := hl
        obtain ⟨ocls, odict, odata, oslots⟩ := ol
        simp only at hcl hdl
        subst hcl; subst hdl
        have hol' : (s.heap.push { cls := .type "set", dict := none, data := .set #[] 0 (.fresh 0 0 (!w.params.followText "set-order")) }).get? l = some { cls := .type "list", dict := odict, data := .seq items nl, slots := oslots } := Heap.get?_push_of_some _ hol
        have hsls := F.sub_list_set
        have hslf := F.sub_list_frozenset
        have hne : (Value.type "list" == Value.type "dict") = false := by decide
        have hl1 : (s.heap.push { cls := .type "set", dict := none, data := .set #[] 0 (.fresh 0 0 (!w.params.followText "set-order")) }).IsList l items := ⟨_, hol', rfl, nl, rfl⟩
        unfold Builtin.«set.__init__» noKeywords Builtin.Frozenset.updateFrom
        generalize hPI : pyIter = PI
        wp_walk
        subst hPI

        refine wpAny_pyIter_list hl1 ?_
        refine wpAny_bind (wpAny_runValue ?_)
        have hlS : l < s.heap.objs.size := Heap.lt_size hol
        have hh3 : A.in1.in1.in1.handled = none := by simp [hh]
        have hz1 : (s.heap.push { cls := .type "set", dict := none, data := .set #[] 0 (.fresh 0 0 (!w.params.followText "set-order")) }).objs.size = s.heap.objs.size + 1 := Heap.size_push ..
        have hneI : l ≠ (s.heap.push { cls := .type "set", dict := none, data := .set #[] 0 (.fresh 0 0 (!w.params.followText "set-order")) }).objs.size := by
          rw [Heap.size_push]; exact Nat.ne_of_lt (Nat.lt_succ_of_lt hlS)
        have hSf : s.heap.objs.size ∉ [(s.heap.push { cls := .type "set", dict := none, data := .set #[] 0 (.fresh 0 0 (!w.params.followText "set-order")) }).objs.size, l] := by
          rw [Heap.size_push]; simp only [List.mem_cons, List.mem_singleton, List.not_mem_nil, or_false, not_or]
          exact ⟨Nat.ne_of_lt (Nat.lt_succ_self _), Nat.ne_of_gt hlS⟩
        have hval : ∀ (i : Nat) (v : Value), items[i]? = some v → ∃ k t, ns[i]? = some k ∧ v = .str k t := fun i v hv => by
          have hi : i < ns.length := by rw [← hisz]; exact (Array.getElem?_eq_some_iff.mp hv).1
          obtain ⟨t, e⟩ := SS.strs_at hit i v (by rw [Array.getElem?_toList]; exact hv)
          refine ⟨ns[i], t, List.getElem?_eq_getElem hi, ?_⟩
          rw [e, List.getD_eq_getElem?_getD, List.getElem?_eq_getElem hi] <;> rfl
        refine set_update_txt ((Walks.list hh3 _ l hneI items).toS) s.heap.objs.size
          hSf ns hisz hb hval (items.size - 0) 0 _ (by omega) (Nat.zero_le _)
          ⟨⟨_, Heap.get?_push_size _ rfl, rfl, rfl⟩, (hl1.push _)⟩ ?hS0 ?hR
        case hS0 =>
          have hget : ((s.heap.push { cls := .type "set", dict := none, data := .set #[] 0 (.fresh 0 0 (!w.params.followText "set-order")) }).push { cls := .type "list_iterator", data := .fields #[.ref l, .int 0 0] }).get? s.heap.objs.size
              = some { cls := .type "set", dict := none, data := .set #[] 0 (.fresh 0 0 (!w.params.followText "set-order")) } := Heap.get?_push_of_some _ hS
          exact setS_new_at hget
        case hR =>
          intro s' hm hS'
          obtain ⟨h', g2, d', tk', os'⟩ := s'
          have eg : g2 = s.gens := hm.gens
          have ed : d' = s.drawn := hm.drawn
          have eo : os' = s.os := hm.os
          subst eg; subst ed; subst eo
          show wpAny _ _ _ _ _ _
          refine wpAny_pure ?_
          show wpAny _ _ (ret Value.none) _ _ _
          refine wpAny_pure ⟨rfl, h', tk', rfl, hS', fun b o e => ?_⟩
          have hb0 : b < s.heap.objs.size := Heap.lt_size e
          have hb1 : b ≠ s.heap.objs.size := Nat.ne_of_lt hb0
          have hb2 : b ≠ (s.heap.push { cls := .type "set", dict := none, data := .set #[] 0 (.fresh 0 0 (!w.params.followText "set-order")) }).objs.size := by
            rw [Heap.size_push]; exact Nat.ne_of_lt (Nat.lt_succ_of_lt hb0)
          exact hm.heap b o (by simp only [List.mem_cons, List.mem_singleton, List.not_mem_nil, or_false, not_or]; exact ⟨hb1, hb2⟩) (Heap.get?_push_of_some _ (Heap.get?_push_of_some _ e))

      · cases r₂ with
        | error e => exact hr₂
        | ok fl₂ =>
          cases fl₂ with
          | ret r =>
            obtain ⟨rfl, h', tk, rfl, hS', hk'⟩ := hr₂
            repeat (any_goals (first | assumption | wp_step))
            exact h _ _ hS' hk'
          | _ => exact hr₂.elim
    | _ => exact hr.elim
end
end GH
set_option Elab.async false
set_option linter.all false
set_option maxRecDepth 100000
set_option maxHeartbeats 4000000
set_option autoImplicit false
/-! sorted(set(xs)), texts. -/
namespace GH
open PySem PySem.Spec PyProof.Rows L2 PySem.W PySem.Calls
def leS (a b : Str) : Bool := decide (a.cps.toList ≤ b.cps.toList)
theorem sortS_perm {bs L : List Str} (p : bs.Perm L) : bs.mergeSort leS = L.mergeSort leS := by
  have tr : ∀ a b c : Str, leS a b = true → leS b c = true → leS a c = true := fun a b c h1 h2 => by
    simp only [leS, decide_eq_true_eq] at *
    exact List.le_trans h1 h2
  have to : ∀ a b : Str, (leS a b || leS b a) = true := fun a b => by
    simp only [leS, Bool.or_eq_true, decide_eq_true_eq]
    exact List.le_total _ _
  refine List.Perm.eq_of_pairwise (le := fun a b => leS a b = true) (fun a b _ _ h1 h2 => ?_) (List.pairwise_mergeSort tr to bs) (List.pairwise_mergeSort tr to L) (((List.mergeSort_perm bs leS).trans p).trans (List.mergeSort_perm L leS).symm)
  simp only [leS, decide_eq_true_eq] at h1 h2
  have := List.le_antisymm h1 h2
  cases a; cases b
  simp only [Str.mk.injEq]
  exact Array.toList_inj.mp this
def IsS (v : Value) (k : Str) : Prop := ∃ t, v = .str k t
section
variable {P : Program} {w : World} {A : Around} {E : Value → Shared → Prop} {s : Shared} {a : Addr} {L : List Str}
theorem each_isS : ∀ (vs : List Value), (∀ v ∈ vs, ∃ k t, v = Value.str k t) → EachIs IsS vs (vs.map fun v => keyS (0, v))
  | [], _ => .nil
  | v :: vs, h => by
    obtain ⟨k, t, rfl⟩ := h v (List.mem_cons_self ..)
    exact .cons ⟨t, rfl⟩ (each_isS vs fun u hu => h u (List.mem_cons_of_mem _ hu))
theorem sorted_setS {Q : Value → Shared → Prop} (R : SetS w s.heap a L) (hh : A.handled = none) (h64 : L.length < 4000) (hu : A.units + 10 < cLine)
    (hQ : ∀ s' p (out : List Value) (c : Nat), (∀ b o, s.heap.get? b = some o → s'.heap.get? b = some o) → s'.gens = s.gens → s'.os = s.os → s.heap.objs.size ≤ p →
      s'.heap.get? p = some (seqObj "list" out.toArray c) → EachIs IsS out (L.mergeSort leS) → Q (.ref p) s') :
    wpAny (model P w) A (call (.builtin "sorted") [.ref a]) Q E s := by
  obtain ⟨o, es, ep, t, ho, hex, hd, g, pL, nd, hb, hf, hr, hl⟩ := R
  refine Calls.call_function_entry kind_sorted plain_sorted entry_sorted (args_sorted1 _) ?_
  unfold Builtin.«sorted»
  refine wpAny_bind (m := checkCount "sorted" 1 1 _) (wpAny_pure ?_)
  refine wpAny_bind (collect_set (A := A.in1) hh ⟨o, ho, hex.1, hd⟩ hf hb hr hl fun s1 vs k1 hz g1 o1 pm => ?_)
  have hvl : vs.length = L.length := by rw [pm.length_eq, List.length_map, ← pL.length_eq, List.length_map]
  have e := each_isS vs fun v hv => by
    obtain ⟨e, he, q⟩ := List.mem_map.mp (pm.mem_iff.mp hv)
    obtain ⟨k, tk, h1, _⟩ := g e he
    exact ⟨k, tk, by rw [← q]; exact h1⟩
  have pk : (vs.map fun v => keyS (0, v)).Perm L := by
    have q := pm.map fun v => keyS (0, v)
    rw [List.map_map] at q
    exact q.trans pL
  have hsl : vs.length ≤ sizeLine := by rw [hvl, sizeLine_eq]; omega
  refine wpAny_bind (wpAny_newList ?_ hsl)
  have hoL : (s1.heap.push (seqObj "list" vs.toArray 0)).get? s1.heap.objs.size = some (seqObj "list" vs.toArray 0) := Heap.get?_push_size _ rfl
  have er : ∀ h : Heap, EachIs (fun v b => ∃ as, Reads h v (PyData.str b) as) vs (vs.map fun v => keyS (0, v)) := fun h => e.mono fun v b ⟨t, q⟩ => ⟨[], by rw [q]; exact .str _ _⟩
  have hal : AllAlike ((vs.map fun v => keyS (0, v)).map PyData.str) := AllAlike.of fun b b' => by simp [alike]
  have hk : Sortable ((vs.map fun v => keyS (0, v)).map PyData.str) := Sortable.others fun b => ⟨by simp, by simp⟩
  refine wpAny_bind (wpAny_holding (wpAny_call_entry slot_list_sort ⟨_, hoL, rfl⟩ entry_list_sort
    (list_sort_vals (s := { s1 with heap := s1.heap.push (seqObj "list" vs.toArray 0) }) hoL (SortsAt.data (each_map (R := fun v d => ∃ as, Reads _ v d as) PyData.str (er _)) hal hk (bound_map fun b hb => ?_)) hsl ⟨_, rfl, ?_⟩) (args_list_sort _)))
  · simp [PyData.depth]
    omega
  · obtain ⟨c, hc⟩ := sortedHeap_at (vs := vs) (out := (sortVals (dataKind (sortingHeap (s1.heap.push (seqObj "list" vs.toArray 0)) s1.heap.objs.size vs) ((vs.map fun v => keyS (0, v)).map PyData.str)) false vs vs).toArray) hoL
    have q := sortVals_data false e (er (sortingHeap (s1.heap.push (seqObj "list" vs.toArray 0)) s1.heap.objs.size vs)) hal
    rw [dataLe_str (fun b : Str => b)] at q
    have q2 : EachIs IsS _ (L.mergeSort leS) := sortS_perm pk ▸ q
    refine wpAny_pure ⟨_, rfl, hQ _ s1.heap.objs.size _ c (fun b u eb => ?_) g1 o1 hz hc q2⟩
    have q := k1 b u eb
    have hlt := Heap.lt_size q
    show (sortedHeap (s1.heap.push (seqObj "list" vs.toArray 0)) s1.heap.objs.size vs _).get? b = some u
    rw [sortedHeap_old (Nat.ne_of_lt hlt) (by rw [size_push']; exact Nat.lt_succ_of_lt hlt)]
    exact Heap.get?_push_of_some _ q
end
end GH
set_option Elab.async false
set_option linter.all false
set_option maxRecDepth 100000
set_option maxHeartbeats 4000000
set_option autoImplicit false
/-! sorted(set(xs)), texts: the rule. -/
namespace GH
open PySem PySem.Spec PyProof.Rows L2
def SetSO (w : World) (a : Addr) (L : List Str) : HO := .ext fun h => SetS w h a L
section
variable {X : Cx} {W : WX}
theorem setSO_new {w : World} {P : Program} {H : Hp} {h : Heap} {a : Addr} {L : List Str} (R : SetS w h a L) : ObjOk P w H h a (SetSO w a L) := by
  have ⟨o, _, _, _, ho, _⟩ := R
  exact ⟨R, ⟨o, ho⟩, fun h1 h2 p k => SetS.at p k⟩
theorem setSO_get {pins : List (Addr × Obj)} {σ : L2.St} {H : Hp} {s : Shared} {a : Addr} {L : List Str} (I : Inv X pins σ H s) (ha : H a = some (SetSO X.w a L)) : SetS X.w s.heap a L := (I.hok a _ ha).1
def rSetS (K : PySem.W.Frag) (w : World) : List V → Hp → VK → Prop := fun xs H Q => ∃ (l : Addr) (ns : List Str), xs = [V.ref l] ∧ (SqL K H l (ns.map V.str) ∨ SqT K H l (ns.map V.str)) ∧ ns.length < 4000 ∧
  ∀ p, H p = none → Q (.ref p) (upd H p (SetSO w p (ddS ns)))
theorem cr_setS (hc : X.calm = true) : CallR X (.type "set") (rSetS X.K X.w) := by
  intro pins s σ H vs us Q I r h
  obtain ⟨l, ns, rfl, hq, hl, q⟩ := h
  rw [Vals.ref1 r]
  have hd := I.ok.hd hc
  rcases hq with hq | hq
  · obtain ⟨its, rv, pt, hz⟩ := I.list hq
    refine call_setSLst ns hd pt.isList (strsAre_of rv) (by unfold scanBound; omega) fun h' tk R k => ?_
    have hn : H s.heap.objs.size = none := I.hok.fresh (Nat.le_refl _)
    exact ⟨.ref _, upd H s.heap.objs.size (SetSO X.w s.heap.objs.size (ddS ns)), I.laid (t' := tk) k (Nat.le_refl _) (setSO_new R), rfl, q _ hn⟩
  · obtain ⟨its, rv, pt, hz⟩ := I.tuple hq
    refine call_setSTup ns hd pt (strsAre_of rv) (by unfold scanBound; omega) fun h' tk R k => ?_
    have hn : H s.heap.objs.size = none := I.hok.fresh (Nat.le_refl _)
    exact ⟨.ref _, upd H s.heap.objs.size (SetSO X.w s.heap.objs.size (ddS ns)), I.laid (t' := tk) k (Nat.le_refl _) (setSO_new R), rfl, q _ hn⟩
def rSortedS (w : World) : List V → Hp → VK → Prop := fun vs H Q => ∃ (a : Addr) (L : List Str), vs = [V.ref a] ∧ H a = some (SetSO w a L) ∧ L.length < 4000 ∧ ∀ p, H p = none → Q (.ref p) (upd H p (.lst ((L.mergeSort leS).map V.str)))
theorem vals_isS : ∀ {out : List Value} {l : List Str}, PySem.W.EachIs IsS out l → Vals (l.map V.str) out
  | _, _, .nil => .nil
  | _, _, .cons ⟨t, e⟩ r => .cons (e ▸ ⟨t, rfl⟩) (vals_isS r)
theorem cr_sortedS (hc : X.calm = true) (hu : X.A.units + 200 < cLine) : CallR X (.builtin "sorted") (rSortedS X.w) := by
  intro pins s σ H vs us Q I r h
  obtain ⟨a, L, rfl, ha, h64, q⟩ := h
  have R := setSO_get I ha
  rw [Vals.ref1 r]
  refine sorted_setS R (I.ok.hd hc) h64 (by omega) fun s' p out c k g o hp hg hi => ?_
  have hlen : ((L.mergeSort leS).map V.str).length ≤ sizeLine := by rw [List.length_map, List.length_mergeSort, sizeLine_eq]; omega
  have hn : H p = none := I.hok.fresh hp
  have J : Inv X pins σ (upd H p (.lst ((L.mergeSort leS).map V.str))) { s with heap := s'.heap, gens := s'.gens, drawn := s'.drawn, toks := s'.toks } :=
    I.call (ch := []) (Un.laid k hp hn) (I.hok.laid k hp ⟨hlen, out, c, vals_isS hi, hg⟩) (by rw [g]; exact I.bare) (fun _ z => nomatch z)
  have e : s' = { s with heap := s'.heap, gens := s'.gens, drawn := s'.drawn, toks := s'.toks } := by
    cases s'
    cases s
    cases o
    rfl
  rw [e]
  exact ⟨.ref p, _, J, rfl, q p hn⟩
theorem VRs_strs {K : PySem.W.Frag} {g : Gh} {H : Hp} : ∀ (l : List Str), VRs K g H (l.map fun s => Val.str s.cps.toList) (l.map V.str)
  | [] => VRs.nil
  | s :: l => VRs.cons (by simp only [VR]; exact congrArg V.str (by cases s; rfl)) (VRs_strs l)
noncomputable def sortSet (ys : List (List Nat)) : List Val := ((ddS (ys.map sOf)).mergeSort leS).map fun s => Val.str s.cps.toList
noncomputable def vSortSet (v : Val) (h : Hv) : Res Val := match seqOf h v with
  | some l => match strsOf l with
    | some ys => if ys.length < 4000 then .ok (.lst (sortSet ys)) h else .fail
    | none => .fail
  | none => .fail
theorem ge_sortSet {e : Expr} {d : Den} {p p2 q pos : Pos} (hc : X.calm = true) (hu : X.A.units + 200 < cLine) (he : GE X W e d) (hm : X.mg "sorted" = none) (hm2 : X.mg "set" = none) (hg : Gl X "sorted" := by rfl) (hg2 : Gl X "set" := by rfl)
    (hst2 : starEach [e] X.env = (false, eval e X.env) :: starEach [] X.env := by rfl) (hpl2 : (backTo q (starEach [] X.env)).any (·.1) = false := by rfl)
    (hst : starEach [.Call (.Name "set" p2) [e] [] q] X.env = (false, eval (.Call (.Name "set" p2) [e] [] q) X.env) :: starEach [] X.env := by rfl) (hpl : (backTo pos (starEach [] X.env)).any (·.1) = false := by rfl) :
    GE X W (.Call (.Name "sorted" p) [.Call (.Name "set" p2) [e] [] q] [] pos) (dFn vSortSet d) := by
  refine PE.imp (pe_callB (cr_sortedS hc hu) hg hm PyProof.Rows.boot_sorted (pa_cons (pe_callTy (cr_setS hc) hg2 hm2 PyProof.Rows.boot_set (pa_cons he pa_nil hst2) (by decide +kernel) (by decide +kernel) hst2 hpl2) pa_nil hst) (by decide +kernel) (by decide +kernel) hst hpl) fun σ H Q ⟨g, l, h, S, R, A⟩ => ?_
  refine tG_of S R A fun v h1 g1 H1 x E1 S1 R1 r1 A1 => ?_
  unfold vSortSet at A1
  split at A1
  · rename_i l1 hl
    split at A1
    · rename_i ys hy
      split at A1
      · rename_i hz
        obtain ⟨a, xs, rfl, s, rs⟩ := seqOf_ok R1 r1 hl
        have e := strsOf_ok hy rs
        rw [e] at s
        refine ⟨a, ys.map sOf, rfl, by first | exact s | exact s.symm, by rw [List.length_map]; exact hz, fun p np => ?_⟩
        obtain ⟨E4, R4⟩ := R1.grow (o := SetSO X.w p (ddS (ys.map sOf))) np
        have hl2 : (ddS (ys.map sOf)).length < 4000 := by have := ddS_len (ys.map sOf); rw [List.length_map] at this; omega
        refine ⟨p, _, rfl, upd_same, hl2, fun p' np' => ?_⟩
        obtain ⟨E5, R5⟩ := R4.grow (o := .lst (((ddS (ys.map sOf)).mergeSort leS).map V.str)) np'
        refine A1 g1 _ (.ref p') (E4.trans E5) R5 ?_
        simp only [VR]
        exact ⟨p', _, rfl, R4.fresh np', upd_same, VRs_strs _⟩
      · exact A1.elim
    · exact A1.elim
  · exact A1.elim
end
end GH
set_option Elab.async false
set_option linter.all false
set_option maxRecDepth 100000
set_option maxHeartbeats 1000000
set_option autoImplicit false
/-! steps of plain reasoning, for every law. -/
namespace GH
open PySem
section
variable {l : GH.Loc} {h h1 : Hv} {P : Post} {rest a b : Stm} {d : Den} {i : Nat} {v : Val} {w u : List Nat} {c : Bool}
theorem asg_ (e : d l h = .ok v h1) (z : sok (rest (l.set i (some v)) h1) P) : sok (sSeq (sAsg d (gName i)) rest l h) P := by
  rw [e_seq, sok_then, e_asg, e]
  exact z
theorem ret_ (z : ok (d l h) P.rt) : sok (sSeq (sRet d) rest l h) P := by
  rw [e_seq, sok_then, e_ret, sok_to]
  exact z
theorem skip_ (hl : l[i]? = some (some (.str u))) (hne : u ≠ w) (z : sok (rest l h) P) : sok (sSeq (sIf (dB (dBin vEq (dVar i) (dC (.str w)))) a sNext) rest l h) P := by
  rw [e_seq, sok_then]
  simp only [e_if, e_b, e_bin, dVar, hl, Res.bind_ok, e_c, vEq_str, resB_bl, Res.to_ok, hne, decide_false, Bool.false_eq_true, if_false, e_next, sok_nx]
  exact z
theorem hit_ (hl : l[i]? = some (some (.str w))) (z : ok (d l h) P.rt) : sok (sSeq (sIf (dB (dBin vEq (dVar i) (dC (.str w)))) (sSeq (sRet d) sNext) sNext) rest l h) P := by
  rw [e_seq, sok_then]
  simp only [e_if, e_b, e_bin, dVar, hl, Res.bind_ok, e_c, vEq_str, resB_bl, Res.to_ok, decide_true, if_true]
  exact ret_ z
theorem if_ {t : DenG Bool} (e : t l h = .ok c h) (z1 : c = true → sok (a l h) { P with nx := fun l h => sok (rest l h) P }) (z2 : c = false → sok (rest l h) P) : sok (sSeq (sIf t a sNext) rest l h) P := by
  rw [e_seq, sok_then]
  simp only [e_if, e, Res.to_ok]
  cases c with
  | true => simpa using z1 rfl
  | false => simpa using z2 rfl
/-- a test that may call -/
theorem ifk_ {t : DenG Bool} (e : ok (t l h) fun c h1 => (c = true → sok (a l h1) { P with nx := fun l h => sok (rest l h) P }) ∧ (c = false → sok (rest l h1) P)) : sok (sSeq (sIf t a sNext) rest l h) P := by
  rw [e_seq, sok_then, e_if, sok_to]
  refine ok_imp e fun c h1 z => ?_
  cases c with
  | true => simpa using z.1 rfl
  | false => simpa using z.2 rfl
theorem asgk_ (z : ok (d l h) fun v h1 => sok (rest (l.set i (some v)) h1) P) : sok (sSeq (sAsg d (gName i)) rest l h) P := by
  rw [e_seq, sok_then, e_asg, sok_to]
  exact z
theorem asgq_ (Q : Val → Hv → Prop) (a : ok (d l h) Q) (z : ∀ v h1, Q v h1 → sok (rest (l.set i (some v)) h1) P) : sok (sSeq (sAsg d (gName i)) rest l h) P := asgk_ (ok_imp a z)
theorem sok_seqo (R : GH.Loc → Hv → Prop) (h1 : ∀ R' : GH.Loc → Hv → Prop, (∀ l h, R l h → R' l h) → sok (a l h) { P with nx := R' }) (h2 : ∀ l h, R l h → sok (b l h) P) : sok (sSeq a b l h) P := sok_seq R (h1 R fun _ _ z => z) h2
theorem asgo_ (Q : Val → Hv → Prop) (a : ∀ Q' : Val → Hv → Prop, (∀ v h, Q v h → Q' v h) → ok (d l h) Q') (z : ∀ v h1, Q v h1 → sok (rest (l.set i (some v)) h1) P) : sok (sSeq (sAsg d (gName i)) rest l h) P := asgq_ Q (a Q fun _ _ z => z) z
end
theorem forL_invo {t : Tg} {b : Stm} {s : Src} {P : Post} (I : List Val → GH.Loc → Hv → Prop)
    (step : ∀ I' : List Val → GH.Loc → Hv → Prop, (∀ x l h, I x l h → I' x l h) → ∀ x r l h, I (x :: r) l h → srcOk s h ∧ tok (t x l h) fun l1 h1 => sok (b l1 h1) { nx := fun l2 h2 => I' r l2 h2, ct := fun l2 h2 => I' r l2 h2, bk := P.nx, rt := P.rt })
    (done : ∀ l h, I [] l h → srcOk s h ∧ P.nx l h) (items : List Val) (l : GH.Loc) (h : Hv) (i : I items l h) : sok (forL t b s items l h) P := forL_inv I (step I fun _ _ _ z => z) done items l h i
theorem lcL_invo {t : Tg} {c : DenG Bool} {e : Den} {s : Src} {P : List Val → Hv → Prop} (I : List Val → List Val → Hv → Prop) {l : GH.Loc}
    (step : ∀ I' : List Val → List Val → Hv → Prop, (∀ x l h, I x l h → I' x l h) → ∀ x r acc h, I (x :: r) acc h → srcOk s h ∧ tok (t x l h) fun l1 h1 => ok (c l1 h1) fun b h2 => if b then ok (e l1 h2) fun v h3 => I' r (acc ++ [v]) h3 else I' r acc h2)
    (done : ∀ acc h, I [] acc h → srcOk s h ∧ P acc h) (items acc : List Val) (h : Hv) (i : I items acc h) : ok (lcL t c e s items acc l h) P := lcL_inv I (step I fun _ _ _ z => z) done items acc h i
@[simp] theorem e_isi (t : Ty) (d : Den) (l : GH.Loc) (h : Hv) : dIsi t d l h = (d l h).bind fun v h1 => match tyOf h1 v with
  | some a => .ok (.bl (isiB a t)) h1
  | none => .fail := nrfl rfl
theorem vAll_bls (l : List Bool) (h : Hv) : vAll (.lst (l.map .bl)) h = .ok (.bl (l.all id)) h := by
  have : blsOf (l.map .bl) = some l := by
    induction l with
    | nil => rfl
    | cons a l ih => simp [blsOf, ih]
  simp [vAll, lstOf, this]
theorem rng_ok {j : Nat} {h : Hv} (h1 : j ≤ 16777216) : vRange1 (.int (j : Int)) h = .ok (rangeL 0 j, none) h := by
  have e : (2 : Int) ^ 62 = 4611686018427387904 := by decide
  unfold vRange1
  rw [e]
  dsimp only
  rw [if_pos ⟨by omega, by omega⟩]
  simp
theorem rng_mem {n : Nat} {v : Val} (m : v ∈ rangeL 0 n) : ∃ j : Nat, j < n ∧ v = .int j := by
  obtain ⟨j, hj, rfl⟩ := List.mem_map.mp m
  exact ⟨j, List.mem_range.mp hj, by simp⟩
theorem nth_nat {α : Type} {l : List α} {j : Nat} {v : α} (e : l[j]? = some v) : nth l (j : Int) = some v := by
  simp [nth, e]
end GH
set_option Elab.async false
set_option linter.all false
set_option maxRecDepth 100000
set_option maxHeartbeats 1000000
set_option autoImplicit false
/-! plain lemmas for every law. -/
namespace GH
open PySem
section
variable (a b c d : Val) (l : List Val) (h : Hv)
@[simp] theorem t0 : vIx (.tup (a :: l)) (.int 0) h = .ok a h := nrfl rfl
@[simp] theorem t1 : vIx (.tup (a :: b :: l)) (.int 1) h = .ok b h := nrfl rfl
@[simp] theorem t2 : vIx (.tup (a :: b :: c :: l)) (.int 2) h = .ok c h := nrfl rfl
@[simp] theorem t3 : vIx (.tup (a :: b :: c :: d :: l)) (.int 3) h = .ok d h := nrfl rfl
@[simp] theorem m1_3 : vIx (.tup [a, b, c]) (.int (-1)) h = .ok c h := nrfl rfl
@[simp] theorem m2_3 : vIx (.tup [a, b, c]) (.int (-2)) h = .ok b h := nrfl rfl
@[simp] theorem m1_4 : vIx (.tup [a, b, c, d]) (.int (-1)) h = .ok d h := nrfl rfl
@[simp] theorem m2_4 : vIx (.tup [a, b, c, d]) (.int (-2)) h = .ok c h := nrfl rfl
end
@[simp] theorem e_neg (i : Int) (l : GH.Loc) (h : Hv) : dNeg (dC (.int i)) l h = .ok (.int (-i)) h := nrfl rfl
@[simp] theorem e_osome (d : Den) (l : GH.Loc) (h : Hv) : oSome d l h = (d l h).bind fun v h1 => match v with
  | .int i => .ok (some i) h1
  | _ => .fail := nrfl rfl
@[simp] theorem e_andv (a b : Den) (l : GH.Loc) (h : Hv) : dAndV a b l h = (a l h).bind fun v h1 => match v with
  | .bl true => b l h1
  | .bl false => .ok (.bl false) h1
  | _ => .fail := by
  unfold dAndV
  cases a l h with
  | ok v h1 => cases v <;> first | rfl | (rename_i b; cases b <;> rfl)
  | exc e h1 => rfl
  | fail => rfl
@[simp] theorem e_notv (a : Den) (l : GH.Loc) (h : Hv) : dNotV a l h = (a l h).bind fun v h1 => match v with
  | .bl c => .ok (.bl (!c)) h1
  | _ => .fail := nrfl rfl
@[simp] theorem e_orv (a b : Den) (l : GH.Loc) (h : Hv) : dOrV a b l h = (a l h).bind fun v h1 => match v with
  | .bl true => .ok (.bl true) h1
  | .bl false => b l h1
  | _ => .fail := by
  unfold dOrV
  cases a l h with
  | ok v h1 => cases v <;> first | rfl | (rename_i b; cases b <;> rfl)
  | exc e h1 => rfl
  | fail => rfl
@[simp] theorem e_chain (f f' : Val → Val → Hv → Res Val) (da db dc : Den) (l : GH.Loc) (h : Hv) : dChain f f' da db dc l h = (da l h).bind fun v h1 => (db l h1).bind fun u h2 => (f v u h2).bind fun z h3 => match z with
  | .bl true => (dc l h3).bind fun w h4 => f' u w h4
  | .bl false => .ok (.bl false) h3
  | _ => .fail := nrfl rfl
theorem add_lst {a b : List Val} {h : Hv} (e : a.length + b.length ≤ 16777216) : vAdd (.lst a) (.lst b) h = .ok (.lst (a ++ b)) h := by
  simp [vAdd, lstOf, lineN, e]
theorem add_tup {a b : List Val} {h : Hv} (e : a.length + b.length ≤ 16777216) : vAdd (.tup a) (.tup b) h = .ok (.tup (a ++ b)) h := by
  simp [vAdd, lineN, e]
theorem vRange1_ok {j : Int} {h : Hv} (h0 : 0 ≤ j) (h1 : j ≤ 16777216) : vRange1 (.int j) h = .ok (rangeL 0 j.toNat, none) h := by
  have e : (2 : Int) ^ 62 = 4611686018427387904 := by decide
  unfold vRange1
  rw [e]
  dsimp only
  rw [if_pos ⟨by omega, h1⟩]
theorem vRange2_ok {a b : Int} {h : Hv} (h0 : -1000000 ≤ a) (h3 : a ≤ 1000000) (h1 : b ≤ 16777216) (h2 : a ≤ b) (h4 : b - a ≤ 16777216) : vRange2 (.int a) (.int b) h = .ok (rangeL a (b - a).toNat, none) h := by
  have e : (2 : Int) ^ 62 = 4611686018427387904 := by decide
  unfold vRange2
  rw [e]
  dsimp only
  rw [if_pos (by constructor <;> first | omega | (constructor <;> omega))]
theorem cut_take {α : Type} (l : List α) (n : Nat) : cut l none (some (n : Int)) = l.take n := by
  unfold cut
  rw [HT.sIx_nat, HT.sIx_none]
  simp only [List.drop_zero, Nat.sub_zero]
  by_cases h : n ≤ l.length
  · rw [Nat.min_eq_left h]
  · rw [Nat.min_eq_right (by omega), List.take_of_length_le (Nat.le_refl _), List.take_of_length_le (by omega)]
theorem cut_drop {α : Type} (l : List α) (n : Nat) : cut l (some (n : Int)) none = l.drop n := by
  unfold cut
  rw [HT.sIx_nat, HT.sIx_none]
  by_cases h : n ≤ l.length
  · rw [Nat.min_eq_left h]
    exact List.take_of_length_le (by simp)
  · rw [Nat.min_eq_right (by omega), List.drop_of_length_le (Nat.le_refl _), List.drop_of_length_le (by omega)]
    simp
section
variable (h : Hv) (A B C : Ob)
@[simp] theorem g0 : (h ++ [A, B])[h.length]? = some A := by simp
@[simp] theorem g1 : (h ++ [A, B])[h.length + 1]? = some B := by
  rw [List.getElem?_append_right (by omega)]; simp
@[simp] theorem s0 : (h ++ [A, B]).set h.length C = h ++ [C, B] := by simp
@[simp] theorem s1 : (h ++ [A, B]).set (h.length + 1) C = h ++ [A, C] := by
  rw [List.set_append_right _ _ (by omega)]; simp
end
theorem append_ref {i : Nat} {l : List Val} {v : Val} {h : Hv} (e : h[i]? = some (.lst l)) (hl : l.length < 16777216) : vAppend (.ref i) v h = .ok .non (h.set i (.lst (l ++ [v]))) := by
  simp [vAppend, e, lineN, hl]
theorem pop_ref {i : Nat} {l : List Val} {v : Val} {h : Hv} (e : h[i]? = some (.lst (l ++ [v]))) : vPop (.ref i) h = .ok v (h.set i (.lst l)) := by
  simp [vPop, e]
theorem isLst_ref {i : Nat} {l : List Val} {h : Hv} (e : h[i]? = some (.lst l)) : isLst h (.ref i) = true := by
  simp [isLst, lstOf, e]
theorem tru_ref {i : Nat} {l : List Val} {h : Hv} (e : h[i]? = some (.lst l)) : vTru (.ref i) h = .ok (!l.isEmpty) h := by
  simp [vTru, seqOf, lstOf, e]
@[simp] theorem tru_tup {l : List Val} {h : Hv} : vTru (.tup l) h = .ok (!l.isEmpty) h := by
  simp [vTru, seqOf]
theorem len_ref {i : Nat} {l : List Val} {h : Hv} (e : h[i]? = some (.lst l)) : vLen (.ref i) h = .ok (.int l.length) h := by
  simp [vLen, seqOf, lstOf, e]
theorem pv_inj {p q : List Int} (h : pv p = pv q) : p = q := by
  have h : p.map Val.int = q.map Val.int := by simpa using h
  exact List.map_inj_right (fun a b e => by simpa using e) |>.mp h
theorem unpv : ∀ l : List Val, (∀ v ∈ l, ∃ p, v = pv p) → ∃ L : List (List Int), l = L.map pv
  | [], _ => ⟨[], rfl⟩
  | v :: l, h => by
    obtain ⟨p, rfl⟩ := h v (List.mem_cons_self ..)
    obtain ⟨L, rfl⟩ := unpv l fun v hv => h v (List.mem_cons_of_mem _ hv)
    exact ⟨p :: L, rfl⟩
theorem pds_ints (p : List Int) : pds (p.map .int) = p.map PyData.int := by
  induction p with
  | nil => rfl
  | cons a p ih => simp only [List.map_cons, pds, pd, ih]
theorem alike_pv (p q : List Int) : PySem.W.alike (pd (pv p)) (pd (pv q)) = true := by
  simp only [pd, PySem.W.alike, pds_ints, PySem.W.alike_ints]
theorem mem_pv {p : List Int} {l : List (List Int)} : pv p ∈ l.map pv ↔ p ∈ l := by
  constructor
  · intro h
    obtain ⟨q, hq, e⟩ := List.mem_map.mp h
    rw [← pv_inj e]; exact hq
  · exact fun h => List.mem_map.mpr ⟨p, h, rfl⟩
theorem sorted_pv {l : List (List Int)} (hd : l = [] ∨ ∃ r, l = [] :: r) (h : Hv) : ∃ L : List (List Int), (∀ q, q ∈ L ↔ q ∈ l) ∧ L.length = l.length ∧ vSorted (.lst (l.map pv)) h = .ok (.lst (L.map pv)) h := by
  have ok : sortOk (l.map pv) = true := by
    unfold sortOk
    have h1 := okVs_pvs l
    have h2 := dpVs_pvs l
    have h3 : ((l.map pv).all fun a => (l.map pv).all fun b => PySem.W.alike (pd a) (pd b)) = true := by
      refine List.all_eq_true.mpr fun a ha => List.all_eq_true.mpr fun b hb => ?_
      obtain ⟨p, _, rfl⟩ := List.mem_map.mp ha
      obtain ⟨q, _, rfl⟩ := List.mem_map.mp hb
      exact alike_pv p q
    rw [h1, h3]
    have h4 : decide (dpVs (l.map pv) ≤ 190) = true := decide_eq_true (by omega)
    rw [h4]
    rcases hd with rfl | ⟨r, rfl⟩
    · rfl
    · simp
      exact .inr rfl
  have perm : (sortV (l.map pv)).Perm (l.map pv) := List.mergeSort_perm _ _
  obtain ⟨L, hL⟩ := unpv (sortV (l.map pv)) fun v hv => by
    obtain ⟨p, _, e⟩ := List.mem_map.mp (perm.mem_iff.mp hv)
    exact ⟨p, e.symm⟩
  refine ⟨L, fun q => ?_, ?_, ?_⟩
  · rw [← mem_pv (l := l), ← perm.mem_iff, hL, mem_pv]
  · have := perm.length_eq
    rw [hL] at this
    simpa using this
  · simp [vSorted, lstOf, ok, hL]
/-! comprehensions whose parts are known and change nothing -/
theorem lcL_eq {t : Tg} {c : DenG Bool} {e : Den} {s : Src} {l : GH.Loc} {h : Hv} (f : Val → Bool) (g : Val → Val) (hs : srcOk s h) : ∀ (items acc : List Val), (∀ x ∈ items, ∃ l1, t x l h = .ok l1 h ∧ c l1 h = .ok (f x) h ∧ (f x = true → e l1 h = .ok (g x) h)) → lcL t c e s items acc l h = .ok (acc ++ (items.filter f).map g) h
  | [], acc, _ => by simp [lcL, hs]
  | x :: r, acc, q => by
    obtain ⟨l1, e1, e2, e3⟩ := q x (List.mem_cons_self ..)
    have ih := fun acc => lcL_eq (l := l) f g hs r acc fun y hy => q y (List.mem_cons_of_mem _ hy)
    simp only [lcL, if_pos hs, e1, e2]
    cases ef : f x with
    | true => simp [e3 ef, ih, ef]
    | false => simp [ih, ef]
theorem lcL_map {t : Tg} {e : Den} {s : Src} {l : GH.Loc} {h : Hv} (g : Val → Val) (hs : srcOk s h) (items acc : List Val) (q : ∀ x ∈ items, ∃ l1, t x l h = .ok l1 h ∧ e l1 h = .ok (g x) h) : lcL t dYes e s items acc l h = .ok (acc ++ items.map g) h := by
  rw [lcL_eq (fun _ => true) g hs items acc fun x hx => ?_]
  · congr 2
    rw [List.filter_eq_self.mpr fun _ _ => rfl]
  · obtain ⟨l1, e1, e2⟩ := q x hx
    exact ⟨l1, e1, rfl, fun _ => e2⟩
theorem lcB_map {t : Tg} {e : Den} {s : Src} {l : GH.Loc} {h : Hv} (g : Val → Val) (hs : srcOk s h) : ∀ (items acc : List Val), (∀ x ∈ items, ∃ l1, t x l h = .ok l1 h ∧ e l1 h = .ok (g x) h) → acc.length + items.length ≤ 16777216 → lcB t dYes e s items acc l h = .ok (acc ++ items.map g) h
  | [], acc, _, _ => by simp [lcB, hs]
  | x :: r, acc, q, n => by
    obtain ⟨l1, e1, e2⟩ := q x (List.mem_cons_self ..)
    simp only [List.length_cons] at n
    have hl : acc.length < lineN := by unfold lineN; omega
    simp only [lcB, if_pos hs, e1, e_yes, if_true, e2, if_pos hl]
    rw [lcB_map g hs r (acc ++ [g x]) (fun y hy => q y (List.mem_cons_of_mem _ hy)) (by simp; omega)]
    simp
theorem lc2L_map {t t1 : Tg} {di1 : DenG Src} {e : Den} {vs1 : List Nat} {s : Src} {l : GH.Loc} {h : Hv} (F : Val → List Val) (hs : srcOk s h) : ∀ (items acc : List Val), (∀ x ∈ items, ∃ l1 s1, t x l h = .ok l1 h ∧ di1 l1 h = .ok s1 h ∧ ∀ acc : List Val, acc.length + (F x).length ≤ 16777216 → lcB t1 dYes e s1 s1.1 acc (wipeL l1 vs1) h = .ok (acc ++ F x) h) →
    acc.length + (items.flatMap F).length ≤ 16777216 → lc2L t dYes di1 t1 dYes e vs1 s items acc l h = .ok (acc ++ items.flatMap F) h
  | [], acc, _, _ => by simp [lc2L, hs]
  | x :: r, acc, q, n => by
    obtain ⟨l1, s1, e1, e2, e3⟩ := q x (List.mem_cons_self ..)
    simp only [List.flatMap_cons, List.length_append] at n
    simp only [lc2L, if_pos hs, e1, e_yes, if_true, e2]
    rw [e3 acc (by omega)]
    simp only [Res.bind_ok]
    rw [lc2L_map F hs r (acc ++ F x) (fun y hy => q y (List.mem_cons_of_mem _ hy)) (by rw [List.length_append]; omega)]
    simp
theorem dcL_map {t : Tg} {ek e : Den} {s : Src} {l : GH.Loc} {h : Hv} (g : Val → Val × Val) (hs : srcOk s h) : ∀ (items : List Val) (acc : List (Val × Val)), (∀ x ∈ items, ∃ l1, t x l h = .ok l1 h ∧ ek l1 h = .ok (g x).1 h ∧ e l1 h = .ok (g x).2 h ∧ (keyOf (g x).1).isSome = true) → dcL t dYes ek e s items acc l h = .ok ((items.map g).foldl (fun a p => dPut a p.1 p.2) acc) h
  | [], acc, _ => by simp [dcL, hs]
  | x :: r, acc, q => by
    obtain ⟨l1, e1, e2, e3, e4⟩ := q x (List.mem_cons_self ..)
    obtain ⟨kk, e5⟩ := Option.isSome_iff_exists.mp e4
    simp only [dcL, if_pos hs, e1, e_yes, if_true, e2, e3, e5]
    rw [dcL_map g hs r _ fun y hy => q y (List.mem_cons_of_mem _ hy)]
    rfl
end GH
set_option Elab.async false
set_option linter.all false
set_option maxRecDepth 100000
set_option maxHeartbeats 4000000
set_option autoImplicit false
/-! sorted(d) of text keys, d.pop(k, x), xs.reverse(), str(n), except C as e: return A if isinstance(e, D) else B. -/
namespace GH
open PySem PySem.Spec PyProof.Rows L2
theorem mkT_ok {vs : List Val} {h : Hv} (e : vs.length ≤ 16777216) : mkTup vs h = .ok (.tup vs) h := by simp [mkTup, lineN, e]
theorem mkL_ok {vs : List Val} {h : Hv} (e : vs.length ≤ 16777216) : mkLst vs h = .ok (.lst vs) h := by simp [mkLst, lineN, e]
theorem leS_trans (a b c : Str) (h1 : leS a b = true) (h2 : leS b c = true) : leS a c = true := by
  simp only [leS, decide_eq_true_eq] at *
  exact List.le_trans h1 h2
theorem leS_total (a b : Str) : (leS a b || leS b a) = true := by
  simp only [leS, Bool.or_eq_true, decide_eq_true_eq]
  exact List.le_total _ _
theorem leS_anti {a b : Str} (h1 : leS a b = true) (h2 : leS b a = true) : a = b := by
  simp only [leS, decide_eq_true_eq] at h1 h2
  have := List.le_antisymm h1 h2
  cases a; cases b
  simp only [Str.mk.injEq]
  exact Array.toList_inj.mp this
theorem sortS_of {ys ks : List Str} (p : ys.Perm ks) (h : ys.Pairwise fun a b => leS a b = true) : ys = ks.mergeSort leS :=
  List.Perm.eq_of_pairwise (le := fun a b => leS a b = true) (fun _ _ _ _ h1 h2 => leS_anti h1 h2) h (List.pairwise_mergeSort leS_trans leS_total ks) (p.trans (List.mergeSort_perm ks leS).symm)
theorem lt_cps {a b : Str} (h : ltCps b.cps.toList a.cps.toList = false) : leS a b = true := by
  rw [PyProof.Rows.ltCps_eq] at h
  simp only [leS, decide_eq_true_eq]
  exact List.not_lt.mp (by simpa using h)
theorem rising_pw : ∀ {ss : List Str} {p : Str}, risingS p ss = true → (p :: ss).Pairwise fun a b => leS a b = true
  | [], p, _ => List.pairwise_singleton _ _
  | x :: r, p, h => by
    simp only [risingS, Bool.and_eq_true, Bool.not_eq_true'] at h
    have ih := rising_pw h.2
    refine List.pairwise_cons.mpr ⟨fun b hb => ?_, ih⟩
    have h1 := lt_cps h.1
    rcases List.mem_cons.mp hb with rfl | hb
    · exact h1
    · exact leS_trans _ _ _ h1 ((List.pairwise_cons.mp ih).1 b hb)
theorem sorted_pw {ys : List Str} (h : sortedS ys = true) : ys.Pairwise fun a b => leS a b = true := by
  cases ys with
  | nil => exact .nil
  | cons x r => exact rising_pw h
section
variable {X : Cx} {W : WX}
/-- sorted(d), the keys texts -/
noncomputable def sortStr (ys : List (List Nat)) : List Val := ((ys.map sOf).mergeSort leS).map fun s => Val.str s.cps.toList
noncomputable def vSortDic (v : Val) (h : Hv) : Res Val := match dicOf h v with
  | some l => match strsOf (l.map (·.1)) with
    | some ys => if ys.length < 64 then .ok (.lst (sortStr ys)) h else .fail
    | none => .fail
  | none => .fail
theorem keys_strs {K : PySem.W.Frag} {g : Gh} {H : Hp} : ∀ {l : List (Val × Val)} {ks : List (Key × V)} {ys : List (List Nat)}, DR K g H l ks → strsOf (l.map (·.1)) = some ys → ks.map (·.1) = (ys.map sOf).map Sum.inr
  | [], ks, ys, r, e => by
    simp only [List.map_nil, strsOf, Option.some.injEq] at e
    subst e
    rw [r.nilInv]
    rfl
  | p :: l, ks, ys, r, e => by
    obtain ⟨q, ks', rfl, e1, _, t⟩ := r.inv
    simp only [List.map_cons] at e
    cases hp : p.1 with
    | str s =>
      rw [hp] at e e1
      simp only [strsOf, Option.map_eq_some_iff] at e
      obtain ⟨ys', e2, rfl⟩ := e
      simp only [keyOf, Option.some.injEq] at e1
      simp only [List.map_cons, keys_strs t e2, ← e1]
    | _ => rw [hp] at e; simp [strsOf] at e
theorem c1_sortDic (hc : X.calm = true) : C1 X (.builtin "sorted") vSortDic := ⟨_, call_sortedD hc, fun W g H h σ v x Q R r A => by
  unfold vSortDic at A
  split at A
  · rename_i l hl
    split at A
    · rename_i ys hy
      split at A
      · rename_i hz
        obtain ⟨i, a, ks, rfl, rfl, hm, hi, ha, d⟩ := dicOf_ok R r hl
        refine ⟨a, ks, ys.map sOf, rfl, .inl ha, keys_strs d hy, by rw [List.length_map]; exact hz, fun zs p pm so np => ?_⟩
        obtain ⟨E5, R5⟩ := R.grow (o := .lst (zs.map V.str)) np
        refine A g _ (.ref p) E5 R5 ?_
        simp only [VR]
        refine ⟨p, _, rfl, R.fresh np, upd_same, ?_⟩
        rw [sortS_of pm (sorted_pw so)]
        exact VRs_strs _
      · exact A.elim
    · exact A.elim
  · exact A.elim⟩
/-- str(n) -/
def vStrI (v : Val) (h : Hv) : Res Val := match v with
  | .int i => if i.natAbs.log2 < 1920 then .ok (.str (Str.ofString (toString i)).cps.toList) h else .fail
  | _ => .fail
theorem c1_str : C1 X (.type "str") vStrI := ⟨_, call_str_int, fun W g H h σ v x Q R r A => by
  unfold vStrI at A
  split at A
  · split at A
    · rename_i hz
      simp only [VR] at r
      subst r
      refine ⟨_, rfl, hz, A g H _ Ext.refl R ?_⟩
      simp only [VR]
      exact congrArg V.str (by generalize Str.ofString _ = s; cases s; rfl)
    · exact A.elim
  · exact A.elim⟩
/-- x.reverse() -/
def vReverse (x : Val) (h : Hv) : Res Val := match x with
  | .ref i => match h[i]? with
    | some (.lst l) => .ok .non (h.set i (.lst l.reverse))
    | _ => .fail
  | _ => .fail
theorem VRs.rev {K : PySem.W.Frag} {g : Gh} {H : Hp} : ∀ {l : List Val} {xs : List V}, VRs K g H l xs → VRs K g H l.reverse xs.reverse
  | [], xs, r => by rw [show xs = [] from r]; exact VRs.nil
  | v :: l, xs, r => by
    obtain ⟨x, r', rfl, rx, rr⟩ := r
    rw [List.reverse_cons, List.reverse_cons]
    exact (VRs.rev rr).append (.one rx)
theorem ge_reverse {o : Expr} {dx : Den} {apos cpos : Pos} (ho : GE X W o dx) (hbase : attributeBase o "reverse" X.env (eval o X.env) = eval o X.env := by rfl) (hline : (apos.endLine == cpos.line) = true := by rfl) : GE X W (.Call (.Attribute o "reverse" apos) [] [] cpos) (dMeth0 isLst vReverse dx) :=
  ge_meth0 PySem.F.plainAttrs_list PySem.F.slot_list_reverse PySem.F.type_list_reverse mt_reverse (fun g H h v x R r e => lst_ty R r e) (fun W g H h σ v x Q R rv A => by
    unfold vReverse at A
    split at A
    · rename_i i
      split at A
      · rename_i l hl
        simp only [VR] at rv
        obtain ⟨a, rfl, hm⟩ := rv
        obtain ⟨xs, e1, rs⟩ := ref_at R hl hm
        obtain ⟨E, R1⟩ := R.write (ob := .lst l.reverse) (o' := .lst xs.reverse) hm fun E => ⟨_, upd_same, (rs.ext R E).rev⟩
        exact ⟨a, xs, rfl, rfl, e1, A g _ .non E R1 (by simp only [VR])⟩
      · exact A.elim
    · exact A.elim) ho hbase hline
/-- d.pop(k, x) -/
def dPop2 (o e f : Den) : Den := fun l h => (o l h).bind fun x h1 => if isDic h1 x = true then (e l h1).bind fun k h2 => (f l h2).bind fun z h3 => (match x with
  | .ref i => (match h3[i]?, keyOf k with
    | some (.dic m), some _ => (match dGet m k with
      | some v => .ok v (h3.set i (.dic (dDrop m k)))
      | none => .ok z h3)
    | _, _ => .fail)
  | _ => .fail) else .fail
theorem ge_pop2 {o e f : Expr} {dx de df : Den} {apos cpos : Pos} (ho : GE X W o dx) (he : GE X W e de) (hf : GE X W f df) (m : M2 X o "pop" apos e f cpos := by exact ⟨rfl, rfl, rfl, rfl⟩) : GE X W (.Call (.Attribute o "pop" apos) [e, f] [] cpos) (dPop2 dx de df) := by
  refine PE.imp (pe_dpop2 ho he hf m) fun σ H Q ⟨g, l, h, S, R, A⟩ => ?_
  refine tG_of S R A fun v h1 g1 H1 x E S1 R1 r1 A1 => ?_
  split at A1
  · rename_i ok1
    obtain ⟨a, rfl, hd⟩ := dic_is R1 r1 ok1
    refine ⟨a, rfl, hd, ?_⟩
    refine tG_of S1 R1 A1 fun u h2 g2 H2 y E2 S2 R2 r2 A2 => ?_
    refine tG_of S2 R2 A2 fun w h3 g3 H3 z E3 S3 R3 r3 A3 => ?_
    split at A3
    · rename_i i
      split at A3
      · rename_i mm kk hl hk
        have rv := (r1.ext R1 E2).ext R2 E3
        simp only [VR] at rv
        obtain ⟨a', e1, hm⟩ := rv
        cases e1
        obtain ⟨ks, ha, d⟩ := ref_at R3 hl hm
        have ry := r2.ext R2 E3
        obtain ⟨d1, d2⟩ := DR.get hk d
        obtain ⟨E4, R4⟩ := R3.write (ob := .dic (dDrop mm u)) (o' := .dK (dropK ks kk)) hm fun E => ⟨_, upd_same, DR.drop hk ⟨d.1, d.2.ext R3 E⟩⟩
        refine ⟨ks, kk, ha, key_V ry hk, fun v0 hv0 => ?_, fun hn => ?_⟩
        · cases e : dGet mm u with
          | none => rw [d2 e] at hv0; cases hv0
          | some v1 =>
            rw [e] at A3
            obtain ⟨x1, e2, r4⟩ := d1 v1 e
            rw [e2] at hv0
            cases hv0
            exact A3 g3 _ _ E4 R4 (r4.ext R3 E4)
        · cases e : dGet mm u with
          | some v1 =>
            obtain ⟨x1, e2, r4⟩ := d1 v1 e
            rw [e2] at hn
            cases hn
          | none =>
            rw [e] at A3
            exact A3 g3 H3 _ Ext.refl R3 r3
      · exact A3.elim
    · exact A3.elim
  · exact A1.elim
end
end GH
set_option Elab.async false
set_option linter.all false
set_option maxRecDepth 100000
set_option maxHeartbeats 4000000
set_option autoImplicit false
/-! try: body; except C as e: return A if isinstance(e, D) else B. -/
namespace GH
open PySem PySem.Spec PyProof.Rows L2
section
variable {X : Cx} {W : WX}
/-- only C is raised; its instances are (not) instances of D -/
def sTryIs (i : Nat) (c : List Nat) (ans : Bool) (body : Stm) (A B : List Nat) : Stm := fun l h => match body l h with
  | .exc e l1 h1 => if e.c = c ∧ e.fs = [] ∧ i < l1.length then .rt (.str (if ans then A else B)) h1 else .fail
  | r => r
theorem gs_tryIs (c : List Nat) (ans : Bool) (A B : List Nat) {i : Nat} {x y nm xA xB xI : Str} {cy : Value} {body : List Stmt} {np np2 np3 np4 pos pos' pos2 pos3 pos4 rp cp : Pos} {j1 j2 : Nat} {db : Stm}
    (hs : X.stack = X.env :: X.outer) (hf : X.env.frame = some X.env.locals) (hN : X.N.Nodup) (hi : X.N[i]? = some nm) (hln : X.env.kindOf nm = some .local)
    (hc : Names X x (.ref (clsA X.K c))) (tk : Takes X W) (hm : PySem.W.exmOne X.K (.ref (clsA X.K c)) (.ref (clsA X.K c)) = some true) (EC : ExcC X.K (clsA X.K c))
    (hk : PySem.W.kitOne X.K (.ref (clsA X.K c)) cy = some ans) (hmy : X.mg y = some cy) (hcy : ∃ a, cy = .ref a) (hfi : X.mg xI = none) (hgi : Gl X xI) (hgy : Gl X y)
    (hb : ∀ (W' : WX) (pn : List (Addr × Obj)) (xe : Value → Shared → Prop), Takes (X.tr pn xe) W' → PassesOwn (model X.prog X.w) X.A X.env xe → GSs (X.tr pn xe) W' body db)
    (hdy : (y == ("__debug__" : Str)) = false := by decide +kernel) (hdn : (nm == ("__debug__" : Str)) = false := by decide +kernel) (hdc : (nm == ("__classdict__" : Str)) = false := by decide +kernel)
    (hs1 : starEach [.Name nm np2, .Name y np3] X.env = (false, eval (.Name nm np2) X.env) :: starEach [.Name y np3] X.env := by rfl) (hs2 : starEach [.Name y np3] X.env = (false, eval (.Name y np3) X.env) :: starEach [] X.env := by rfl)
    (hpl : (backTo cp (starEach [.Name y np3] X.env)).any (·.1) = false := by rfl) (hA : xA = sOf A := by rfl) (hB : xB = sOf B := by rfl) (hI : xI = ("isinstance" : Str) := by rfl) :
    GS X W (.Try body [.ExceptHandler (some (.Name x np)) (some nm) [.Return (some (.IfExp (.Call (.Name xI np4) [.Name nm np2, .Name y np3] [] cp) (.Constant (.str xA) j1 pos2) (.Constant (.str xB) j2 pos3) rp)) pos4] pos'] [] [] pos) (sTryIs i c ans db A B) := by
  subst hA hB hI
  refine PS.imp (ps_try_as (i := i) (tb := fun W' => tS X.K W' db)
    (ts := fun a cls d => fun D σ H => cls = .ref (clsA X.K c) ∧ d = none ∧ σ[i]? = some (some (.ref a)) ∧ D.rt (.str (sOf (if ans then A else B))) H) hs hf hN hi hln hc tk hb (fun a oe cls d pn hz hfd => ?_)) fun D σ H ⟨g, l, h, S, R, AA⟩ => ?_
  · refine ⟨fun pins s σ H D I ⟨e1, e2, e3, q⟩ => ?_⟩
    subst e1 e2
    obtain ⟨ay, rfl⟩ := hcy
    have hy : PE (X.suite a ((a, oe) :: pn)) (.Name y np3) (tC (.ref ay)) := pe_glob hgy hmy rfl hdy
    have hv : PE (X.suite a ((a, oe) :: pn)) (.Name nm np2) (tVar i) := pe_var hi (.inl hln) hdn hdc
    have ht := pe_callB (X := X.suite a ((a, oe) :: pn)) (p := np4) (pos := cp) (call_isE (pn := pn) EC hz hfd) hgi hfi (by decide +kernel) (pa_cons hv (pa_cons hy pa_nil hs2) hs1) (by decide +kernel) (by decide +kernel) hs1 hpl
    refine (pss_one (ps_ret (pe_ifExp (pt_val ht) pe_str pe_str))).run pins s σ H D I ?_
    refine ⟨_, e3, ?_⟩
    refine ⟨_, _, ans, rfl, ?_, hk, ?_⟩
    · intro u hu; exact hu
    · refine ⟨ans, rfl, ?_⟩
      cases ans with
      | true => exact q
      | false => exact q
  · refine ⟨g, l, h, S, R, ?_⟩
    unfold sTryIs at AA
    cases e : db l h with
    | nx l1 h1 => rw [e] at AA; exact AA
    | bk l1 h1 => rw [e] at AA; exact AA
    | ct l1 h1 => rw [e] at AA; exact AA
    | rt l1 h1 => rw [e] at AA; exact AA
    | fail => rw [e] at AA; exact AA
    | exc x1 l1 h1 =>
      rw [e] at AA
      simp only at AA
      split at AA
      · rename_i hcc
        intro g' H' σ' cls d E R' S' re
        obtain ⟨k1, k2⟩ := re
        rw [hcc.1] at k1
        rw [hcc.2.1] at k2
        simp only at k2
        subst k1 k2
        have hlen : i < σ'.length := by rw [← S'.len]; exact hcc.2.2
        refine ⟨true, hm, fun _ a na => ⟨rfl, rfl, by rw [List.getElem?_set_self hlen], ?_⟩, fun z => by cases z⟩
        exact AA g' H' _ E R' (by simp only [VR])
      · exact AA.elim
end
end GH
set_option Elab.async false
set_option linter.all false
set_option maxRecDepth 100000
set_option maxHeartbeats 4000000
set_option autoImplicit false
/-! what the head tells of tuples of texts, of classes of exceptions. -/
namespace GH
open PySem PySem.Spec PyProof.Rows L2
theorem VRs_txt {K : PySem.W.Frag} {g : Gh} {H : Hp} : ∀ ws : List (List Nat), VRs K g H (ws.map .str) ((ws.map fun s => He.Dv.str (sOf s)).map (He.Dv.v K))
  | [] => VRs.nil
  | w :: ws => VRs.cons (by simp only [VR]; rfl) (VRs_txt ws)
theorem tup_txt {K : PySem.W.Frag} {x : Str} (ws : List (List Nat)) (h : He.tupB K x (ws.map fun s => He.Dv.str (sOf s)) = true) (g : Gh) (H : Hp) : VR K g H (.tup (ws.map .str)) (.ref (He.ga K x)) := by
  simp only [VR]
  exact ⟨_, _, rfl, He.tupB_ok h H, VRs_txt ws⟩
def excCB (K : PySem.W.Frag) (D : Addr) : Bool :=
  decide (PySem.W.findIn K (.ref D) "__getattribute__" = some (some (.builtin "BaseException.__getattribute__"))) && decide (PySem.W.findIn K (.ref D) "__getattr__" = some none) && decide (PySem.W.subIn K (.ref D) (.type "BaseException") = some true) &&
  PySem.W.hasDictIn K D && decide (PySem.W.findIn K (.ref D) "__class__" = some (some (.builtin "object.__class__"))) && decide (PySem.W.specialIn K (.builtin "object.__class__") "__get__" = some (some (.builtin "getset_descriptor.__get__"))) &&
  decide (PySem.W.takesIn K (.builtin "object.__class__") = some true) && decide (PySem.W.mroIn K D (.type "object") = some true)
theorem excCB_ok {K : PySem.W.Frag} {D : Addr} (h : excCB K D = true) : ExcC K D := by
  unfold excCB at h
  simp only [Bool.and_eq_true, decide_eq_true_eq] at h
  obtain ⟨⟨⟨⟨⟨⟨⟨h1, h2⟩, h3⟩, h4⟩, h5⟩, h6⟩, h7⟩, h8⟩ := h
  exact ⟨h1, h2, h3, h4, h5, h6, h7, h8⟩
def kitB (K : PySem.W.Frag) (C D : Addr) (b : Bool) : Bool := decide (PySem.W.kitOne K (.ref C) (.ref D) = some b)
theorem kitB_ok' {K : PySem.W.Frag} {C D : Addr} {b : Bool} (h : kitB K C D b = true) : PySem.W.kitOne K (.ref C) (.ref D) = some b := of_decide_eq_true h
end GH
set_option Elab.async false
set_option linter.all false
set_option maxRecDepth 100000
set_option maxHeartbeats 1000000
set_option autoImplicit false
/-! lists of texts, sorted; results as equations. -/
namespace GH
open PySem
abbrev Tx := List Nat
theorem eq_of {α : Type} {r : Res α} {a : α} {h : Hv} (k : ok r fun v h' => v = a ∧ h' = h) : r = .ok a h := by
  obtain ⟨v, h', e, rfl, rfl⟩ := ok_eq k
  exact e
@[simp] theorem sOf_cps (s : Tx) : (sOf s).cps.toList = s := rfl
theorem cps_sOf (s : Str) : sOf s.cps.toList = s := by cases s; rfl
def srt (L : List Tx) : List Tx := ((L.map sOf).mergeSort leS).map fun s => s.cps.toList
theorem sortStr_srt (L : List Tx) : sortStr L = (srt L).map .str := by simp [sortStr, srt]
theorem srt_sOf (L : List Tx) : (srt L).map sOf = (L.map sOf).mergeSort leS := by
  simp only [srt, List.map_map]
  conv => rhs; rw [← List.map_id ((L.map sOf).mergeSort leS)]
  rfl
theorem map_sOf_inj {A B : List Tx} (e : A.map sOf = B.map sOf) : A = B := List.map_inj_right (fun _ _ e => sOf_inj e) |>.mp e
theorem srt_perm {A B : List Tx} (p : A.Perm B) : srt A = srt B := by
  unfold srt
  rw [sortS_perm (p.map sOf)]
theorem srt_perm_self (A : List Tx) : (srt A).Perm A := by
  have p := List.mergeSort_perm (A.map sOf) leS
  rw [← srt_sOf] at p
  have q := p.map fun s => s.cps.toList
  simpa [List.map_map, Function.comp_def] using q
theorem srt_mem {A : List Tx} {x : Tx} : x ∈ srt A ↔ x ∈ A := (srt_perm_self A).mem_iff
theorem srt_len (A : List Tx) : (srt A).length = A.length := (srt_perm_self A).length_eq
theorem srt_nodup {A : List Tx} (n : A.Nodup) : (srt A).Nodup := (srt_perm_self A).nodup_iff.mpr n
theorem srt_nil : srt [] = [] := List.length_eq_zero_iff.mp (srt_len [])
theorem srt_id {A : List Tx} (h : (A.map sOf).Pairwise fun a b => leS a b = true) : srt A = A := by
  apply map_sOf_inj
  rw [srt_sOf]
  exact (sortS_of (List.Perm.refl _) h).symm
/-- lists of different texts with the same ones -/
theorem srt_same {A B : List Tx} (na : A.Nodup) (nb : B.Nodup) (h : ∀ x, x ∈ A ↔ x ∈ B) : srt A = srt B := srt_perm ((List.perm_ext_iff_of_nodup na nb).mpr h)
theorem strsOf_map : ∀ L : List Tx, strsOf (L.map .str) = some L
  | [] => rfl
  | x :: L => by simp [strsOf, strsOf_map L]
abbrev TxOk (L : List Tx) : Prop := ∀ x ∈ L, okV (.str x) = true
theorem okVs_txt : ∀ {L : List Tx}, TxOk L → okVs (L.map .str) = true
  | [], _ => rfl
  | x :: L, h => by
    simp only [List.map_cons, okVs, h x (List.mem_cons_self ..), okVs_txt fun y hy => h y (List.mem_cons_of_mem _ hy), Bool.and_self]
theorem dpVs_txt : ∀ L : List Tx, dpVs (L.map .str) = 0
  | [] => rfl
  | x :: L => by simp [dpVs, dpV, dpVs_txt L]
theorem vSorted_txt {L : List Tx} (o : TxOk L) (h : Hv) : vSorted (.lst (L.map .str)) h = .ok (.lst ((srt L).map .str)) h := by
  have ok : sortOk (L.map .str) = true := by
    unfold sortOk
    rw [okVs_txt o, dpVs_txt]
    have h3 : ((L.map Val.str).all fun a => (L.map Val.str).all fun b => PySem.W.alike (pd a) (pd b)) = true := by
      refine List.all_eq_true.mpr fun a ha => List.all_eq_true.mpr fun b hb => ?_
      obtain ⟨p, _, rfl⟩ := List.mem_map.mp ha
      obtain ⟨q, _, rfl⟩ := List.mem_map.mp hb
      simp [pd, PySem.W.alike]
    have h4 : ((L.map Val.str).all isPlainK) = true := List.all_eq_true.mpr fun a ha => by
      obtain ⟨p, _, rfl⟩ := List.mem_map.mp ha
      rfl
    rw [h3, h4]
    simp
  have e : sortV (L.map .str) = (srt L).map .str := by
    unfold sortV
    have q := PySem.W.dataLe_str sOf
    have m : (L.mergeSort fun a b => leS (sOf a) (sOf b)).map Val.str = (L.map Val.str).mergeSort (PySem.W.dataLe false pd) := List.map_mergeSort fun a ha b hb => by
      have z := congrFun (congrFun q a) b
      rw [show leS (sOf a) (sOf b) = decide ((sOf a).cps.toList ≤ (sOf b).cps.toList) from rfl, ← z]
      rfl
    rw [← m]
    congr 1
    apply map_sOf_inj
    rw [srt_sOf]
    exact List.map_mergeSort fun a ha b hb => rfl
  simp [vSorted, lstOf, ok, e]
theorem addS_mem {L : List Str} {x y : Str} : y ∈ addS L x ↔ y ∈ L ∨ y = x := by
  unfold addS
  split
  · rename_i h
    constructor
    · exact .inl
    · rintro (q | rfl)
      · exact q
      · exact h
  · simp
theorem ddS_aux : ∀ (xs L : List Str), L.Nodup → (xs.foldl addS L).Nodup ∧ ∀ y, y ∈ xs.foldl addS L ↔ y ∈ L ∨ y ∈ xs
  | [], L, n => ⟨n, by simp⟩
  | x :: xs, L, n => by
    have n2 : (addS L x).Nodup := by
      unfold addS
      split
      · exact n
      · rename_i h
        refine List.nodup_append.mpr ⟨n, by simp, ?_⟩
        intro a ha b hb
        rw [List.mem_singleton.mp hb]
        rintro rfl
        exact h ha
    obtain ⟨a, b⟩ := ddS_aux xs (addS L x) n2
    refine ⟨a, fun y => ?_⟩
    rw [List.foldl_cons, b, addS_mem, List.mem_cons, or_assoc]
theorem vSortSet_txt {L M : List Tx} {v : Val} {h : Hv} (e : seqOf h v = some (L.map .str)) (n : L.length < 4000) (nd : M.Nodup) (hm : ∀ x, x ∈ M ↔ x ∈ L) : vSortSet v h = .ok (.lst ((srt M).map .str)) h := by
  have z : sortSet L = (srt M).map .str := by
    unfold sortSet
    obtain ⟨a, b⟩ := ddS_aux (L.map sOf) [] .nil
    have p : (ddS (L.map sOf)).Perm (M.map sOf) := by
      refine (List.perm_ext_iff_of_nodup a ?_).mpr fun y => ?_
      · exact List.pairwise_map.mpr (nd.imp fun ne e => ne (sOf_inj e))
      · rw [b]
        simp only [List.not_mem_nil, false_or, List.mem_map]
        constructor
        · rintro ⟨x, hx, rfl⟩; exact ⟨x, (hm x).mpr hx, rfl⟩
        · rintro ⟨x, hx, rfl⟩; exact ⟨x, (hm x).mp hx, rfl⟩
    rw [sortS_perm p, ← srt_sOf, List.map_map]
    congr 1
  simp [vSortSet, e, strsOf_map, n, z]
theorem vSortDic_txt {l : List (Val × Val)} {i : Nat} {L : List Tx} {h : Hv} (e : h[i]? = some (.dic l)) (k : l.map (·.1) = L.map .str) (n : L.length < 64) : vSortDic (.ref i) h = .ok (.lst ((srt L).map .str)) h := by
  simp only [vSortDic, dicOf, e, k, strsOf_map, n, if_true, sortStr_srt]
theorem inSeq_txt (x : Tx) (L : List Tx) : inSeq (.str x) (L.map .str) = decide (x ∈ L) := by
  unfold inSeq
  induction L with
  | nil => rfl
  | cons a s ih =>
    simp only [List.map_cons, List.any_cons, ih, veq_str]
    by_cases h1 : a = x <;> by_cases h2 : x ∈ s <;> simp [h1, h2, eq_comm]
    intro e; exact absurd e.symm h1
theorem inOk_txt {x : Tx} {L : List Tx} (ox : okV (.str x) = true) (o : TxOk L) : inOk (.str x) (L.map .str) = true := by
  unfold inOk
  rw [ox, okVs_txt o, dpVs_txt]
  simp
section
variable {x : Tx} {L : List Tx} (ox : okV (.str x) = true) (o : TxOk L) (h : Hv)
include ox o
theorem vIn_tupTxt : vIn (.str x) (.tup (L.map .str)) h = .ok (.bl (decide (x ∈ L))) h := by
  simp only [vIn, isIn, seqOf, thaw, inOk_txt ox o, if_true, inSeq_txt, Res.bind_ok]
theorem vIn_lstTxt : vIn (.str x) (.lst (L.map .str)) h = .ok (.bl (decide (x ∈ L))) h := by
  simp only [vIn, isIn, seqOf, lstOf, thaw, inOk_txt ox o, if_true, inSeq_txt, Res.bind_ok]
theorem vNotIn_tupTxt : vNotIn (.str x) (.tup (L.map .str)) h = .ok (.bl (!decide (x ∈ L))) h := by
  simp only [vNotIn, isIn, seqOf, thaw, inOk_txt ox o, if_true, inSeq_txt, Res.bind_ok]
theorem vNotIn_lstTxt : vNotIn (.str x) (.lst (L.map .str)) h = .ok (.bl (!decide (x ∈ L))) h := by
  simp only [vNotIn, isIn, seqOf, lstOf, thaw, inOk_txt ox o, if_true, inSeq_txt, Res.bind_ok]
end
@[simp] theorem vNe_str (a b : Tx) (h : Hv) : vNe (.str a) (.str b) h = .ok (.bl (!decide (a = b))) h := nrfl rfl
@[simp] theorem vNe_int (a b : Int) (h : Hv) : vNe (.int a) (.int b) h = .ok (.bl (!decide (a = b))) h := nrfl rfl
theorem vEq_lnil (L : List Val) (o : okVs L = true) (h : Hv) : vEq (.lst L) (.lst []) h = .ok (.bl L.isEmpty) h ∧ vNe (.lst L) (.lst []) h = .ok (.bl (!L.isEmpty)) h := by
  cases L with
  | nil => exact ⟨rfl, rfl⟩
  | cons a l =>
    simp only [okVs] at o
    constructor
    · simp only [vEq, thaw, eqOk, okV, okVs, dpV, dpVs, o, Bool.and_true, Bool.true_and]
      rw [if_pos (by simp)]
      rfl
    · simp only [vNe, thaw, eqOk, okV, okVs, dpV, dpVs, o, Bool.and_true, Bool.true_and]
      rw [if_pos (by simp)]
      rfl
/-! words asked -/
section
variable {l : GH.Loc} {h : Hv} {i : Nat} {w : Tx} {c : Bool}
theorem inT (L : List Tx) (hl : l[i]? = some (some (.str w))) (ow : okV (.str w) = true) (o : TxOk L) (d : decide (w ∈ L) = c) : dB (dBin vIn (dVar i) (dC (.tup (L.map .str)))) l h = .ok c h := by
  simp only [e_b, e_bin, dVar, hl, Res.bind_ok, e_c, vIn_tupTxt ow o, resB_bl, d]
/-- d has the text w -/
theorem inTd {dd : Den} (L : List Tx) (hl : dd l h = .ok (.str w) h) (ow : okV (.str w) = true) (o : TxOk L) (d : decide (w ∈ L) = c) : dB (dBin vIn dd (dC (.tup (L.map .str)))) l h = .ok c h := by
  simp only [e_b, e_bin, hl, Res.bind_ok, e_c, vIn_tupTxt ow o, resB_bl, d]
def strsD : List Tx → DenG (List Val)
  | [] => dNil
  | a :: r => dCons (dC (.str a)) (strsD r)
theorem strsD_run (l : GH.Loc) (h : Hv) : ∀ ws : List Tx, strsD ws l h = .ok (ws.map .str) h
  | [] => rfl
  | a :: r => by simp [strsD, strsD_run l h r]
theorem inLd {dd : Den} (L : List Tx) (hl : dd l h = .ok (.str w) h) (n : L.length ≤ 100) (ow : okV (.str w) = true) (o : TxOk L) (d : decide (w ∈ L) = c) : dB (dBin vIn dd (dLst (strsD L))) l h = .ok c h := by
  simp only [e_b, e_bin, hl, Res.bind_ok, e_lst, strsD_run]
  rw [mkL_ok (by simp; omega)]
  simp only [Res.bind_ok, vIn_lstTxt ow o, resB_bl, d]
theorem eqT {dd : Den} {u : Tx} (hl : dd l h = .ok (.str w) h) (d : decide (w = u) = c) : dB (dBin vEq dd (dC (.str u))) l h = .ok c h := by
  simp only [e_b, e_bin, hl, Res.bind_ok, e_c, vEq_str, resB_bl, d]
end
theorem vMax_ints {L : List Int} {m : Int} (e : L.max? = some m) (h : Hv) : vMax (.lst (L.map .int)) h = .ok (.int m) h := by
  have z : ∀ L : List Int, intsOf (L.map .int) = some L := fun L => by
    induction L with
    | nil => rfl
    | cons a L ih => simp [intsOf, ih]
  simp [vMax, lstOf, z, e]
theorem if2_ {t : DenG Bool} {a b rest : Stm} {l : GH.Loc} {h : Hv} {P : Post} {c : Bool} (e : t l h = .ok c h) (z1 : c = true → sok (a l h) { P with nx := fun l h => sok (rest l h) P }) (z2 : c = false → sok (b l h) { P with nx := fun l h => sok (rest l h) P }) : sok (sSeq (sIf t a b) rest l h) P := by
  rw [e_seq, sok_then]
  simp only [e_if, e, Res.to_ok]
  cases c with
  | true => simpa using z1 rfl
  | false => simpa using z2 rfl
theorem expr_ {d : Den} {rest : Stm} {l : GH.Loc} {h h1 : Hv} {v : Val} {P : Post} (e : d l h = .ok v h1) (z : sok (rest l h1) P) : sok (sSeq (sExpr d) rest l h) P := by
  rw [e_seq, sok_then, e_expr, e]
  exact z
theorem lcL_filL {α : Type} (V : α → Val) (F : α → Bool) (G : α → Val) {t : Tg} {c : DenG Bool} {e : Den} {s : Src} {l : GH.Loc} {h : Hv} (hs : srcOk s h) : ∀ (L : List α) (acc : List Val), (∀ p ∈ L, ∃ l1, t (V p) l h = .ok l1 h ∧ c l1 h = .ok (F p) h ∧ (F p = true → e l1 h = .ok (G p) h)) → lcL t c e s (L.map V) acc l h = .ok (acc ++ (L.filter F).map G) h
  | [], acc, _ => by simp [lcL, hs]
  | x :: r, acc, q => by
    obtain ⟨l1, e1, e2, e3⟩ := q x (List.mem_cons_self ..)
    have ih := fun acc => lcL_filL V F G (t := t) (c := c) (e := e) (l := l) hs r acc fun y hy => q y (List.mem_cons_of_mem _ hy)
    simp only [List.map_cons, lcL, if_pos hs, e1, e2]
    cases ef : F x with
    | true => simp [e3 ef, ih, ef]
    | false => simp [ih, ef]
theorem lcL_mapL {α : Type} (V : α → Val) (G : α → Val) {t : Tg} {e : Den} {s : Src} {l : GH.Loc} {h : Hv} (hs : srcOk s h) (L : List α) (acc : List Val) (q : ∀ p ∈ L, ∃ l1, t (V p) l h = .ok l1 h ∧ e l1 h = .ok (G p) h) : lcL t dYes e s (L.map V) acc l h = .ok (acc ++ L.map G) h := by
  rw [lcL_filL V (fun _ => true) G hs L acc fun p hp => ?_]
  · rw [List.filter_eq_self.mpr fun _ _ => rfl]
  · obtain ⟨l1, e1, e2⟩ := q p hp
    exact ⟨l1, e1, rfl, fun _ => e2⟩
theorem dif_ {t : DenG Bool} {a b : Den} {l : GH.Loc} {h h1 : Hv} {P : Val → Hv → Prop} {c : Bool} (e : t l h = .ok c h1) (z1 : c = true → ok (a l h1) P) (z2 : c = false → ok (b l h1) P) : ok (dIf t a b l h) P := by
  rw [e_dif, e]
  cases c with
  | true => simpa using z1 rfl
  | false => simpa using z2 rfl
end GH
set_option Elab.async false
set_option linter.all false
set_option maxRecDepth 100000
set_option maxHeartbeats 4000000
set_option autoImplicit false
/-! objects of the program's classes: attributes, methods, makers. -/
namespace GH
open PySem PySem.Spec PyProof.Rows L2
def fput (f : Tx) (v : Val) : List (Tx × Val) → List (Tx × Val)
  | [] => [(f, v)]
  | (g, x) :: r => if g = f then (g, v) :: r else (g, x) :: fput f v r
def fget (f : Tx) : List (Tx × Val) → Option Val
  | [] => none
  | (g, x) :: r => if g = f then some x else fget f r
section
variable {K : PySem.W.Frag} {g : Gh} {H : Hp}
theorem FR.inv {p : Tx × Val} {fs : List (Tx × Val)} {gs : List (Str × V)} (r : FR K g H (p :: fs) gs) : ∃ x gs', gs = (sOf p.1, x) :: gs' ∧ VR K g H p.2 x ∧ FR K g H fs gs' := by
  obtain ⟨e, r⟩ := r
  cases gs with
  | nil => cases e
  | cons q gs' =>
    simp only [List.map_cons, List.cons.injEq] at e
    simp only [List.map_cons, VRs] at r
    obtain ⟨x, r', e2, r1, r2⟩ := r
    obtain ⟨e3, e4⟩ := List.cons.inj e2
    refine ⟨q.2, gs', by rw [← e.1], by rw [e3]; exact r1, e.2, by rw [e4]; exact r2⟩
theorem FR.nilInv {gs : List (Str × V)} (r : FR K g H [] gs) : gs = [] := by
  cases gs with
  | nil => rfl
  | cons q gs' => cases r.1
theorem FR.cons {p : Tx × Val} {fs : List (Tx × Val)} {x : V} {gs : List (Str × V)} (r : VR K g H p.2 x) (t : FR K g H fs gs) : FR K g H (p :: fs) ((sOf p.1, x) :: gs) :=
  ⟨by simp only [List.map_cons, t.1], by simp only [List.map_cons]; exact VRs.cons r t.2⟩
theorem FR.length {fs : List (Tx × Val)} {gs : List (Str × V)} (r : FR K g H fs gs) : gs.length = fs.length := by
  have := congrArg List.length r.1
  simpa using this
theorem FR.get {f : Tx} : ∀ {fs : List (Tx × Val)} {gs : List (Str × V)}, FR K g H fs gs → (∀ v, fget f fs = some v → ∃ x, gs.lookup (sOf f) = some x ∧ VR K g H v x) ∧ (fget f fs = none → gs.lookup (sOf f) = none)
  | [], gs, r => by rw [r.nilInv]; exact ⟨(fun v e => by cases e), (fun _ => rfl)⟩
  | p :: fs, gs, r => by
    obtain ⟨x, gs', rfl, r1, r2⟩ := r.inv
    obtain ⟨a, b⟩ := FR.get (f := f) r2
    obtain ⟨pf, pv⟩ := p
    unfold fget
    by_cases h : pf = f
    · subst h
      simp only [if_true]
      refine ⟨fun v e => ?_, fun e => by cases e⟩
      cases e
      exact ⟨x, by simp [List.lookup], r1⟩
    · have h2 : (sOf f == sOf pf) = false := by
        simp only [beq_eq_false_iff_ne, ne_eq]
        exact fun e => h (sOf_inj e).symm
      simp only [if_neg h, List.lookup, h2]
      exact ⟨a, b⟩
theorem FR.put {f : Tx} {v : Val} {x : V} (rx : VR K g H v x) : ∀ {fs : List (Tx × Val)} {gs : List (Str × V)}, FR K g H fs gs → FR K g H (fput f v fs) (putF (sOf f) x gs)
  | [], gs, r => by rw [r.nilInv]; exact FR.cons (p := (f, v)) rx ⟨rfl, VRs.nil⟩
  | p :: fs, gs, r => by
    obtain ⟨y, gs', rfl, r1, r2⟩ := r.inv
    obtain ⟨pf, pv⟩ := p
    unfold fput putF
    by_cases h : pf = f
    · subst h
      rw [if_pos rfl, if_pos rfl]
      exact FR.cons (p := (pf, v)) rx r2
    · rw [if_neg h, if_neg fun e => h (sOf_inj e)]
      exact FR.cons (p := (pf, pv)) r1 (FR.put rx r2)
end
/-- the object that v is, of the class c -/
def insOf (c : Tx) (h : Hv) (v : Val) : Option (Nat × List (Tx × Val)) := match v with
  | .ref i => match h[i]? with
    | some (.ins c' fs) => if c' = c then some (i, fs) else none
    | _ => none
  | _ => none
section
variable {X : Cx} {W : WX}
theorem insOf_ok {K : PySem.W.Frag} {g : Gh} {H : Hp} {h : Hv} {v : Val} {x : V} {c : Tx} {i : Nat} {fs : List (Tx × Val)} (R : HR K g H h) (r : VR K g H v x) (e : insOf c h v = some (i, fs)) :
    v = .ref i ∧ ∃ a dx gs, x = .ref a ∧ g.m[i]? = some a ∧ H a = some (.ins (clsA K c) dx gs) ∧ FR K g H fs gs := by
  unfold insOf at e
  split at e
  · rename_i j
    split at e
    · rename_i c' fs' he
      split at e
      · rename_i hc
        subst hc
        cases e
        simp only [VR] at r
        obtain ⟨a, rfl, hm⟩ := r
        obtain ⟨dx, gs, e1, e2⟩ := ref_at R he hm
        exact ⟨rfl, a, dx, gs, rfl, hm, e1, e2⟩
      · cases e
    · cases e
  · cases e
/-- o.f -/
def dFld (c f : Tx) (o : Den) : Den := fun l h => (o l h).bind fun v h1 => match insOf c h1 v with
  | some (_, fs) => (match fget f fs with
    | some w => .ok w h1
    | none => .fail)
  | none => .fail
theorem ge_fld (c f : Tx) {o : Expr} {d : Den} {x : Str} {pos : Pos} (ho : GE X W o d) (cl : Cls X.K (clsA X.K c)) (n : NoAttr X.K (clsA X.K c) (sOf f)) (hx : x = sOf f := by decide +kernel) (hb : attributeBase o x X.env (eval o X.env) = eval o X.env := by rfl) : GE X W (.Attribute o x pos) (dFld c f d) := by
  subst hx
  refine PE.imp (pe_fld ho hb) fun σ H Q ⟨g, l, h, S, R, A⟩ => ?_
  refine tG_of S R A fun v h1 g1 H1 x E S1 R1 r1 A1 => ?_
  split at A1
  · rename_i i fs e
    obtain ⟨rfl, a, dx, gs, rfl, hm, ha, fr⟩ := insOf_ok R1 r1 e
    split at A1
    · rename_i w ew
      obtain ⟨y, e1, r2⟩ := (FR.get fr).1 w ew
      exact ⟨a, _, dx, gs, y, rfl, ha, cl, n, e1, A1 g1 H1 y Ext.refl R1 r2⟩
    · exact A1.elim
  · exact A1.elim
/-- o.f as a target -/
def gFld (c f : Tx) (o : Den) : Tg := fun v l h => (o l h).toT l fun x h1 => match insOf c h1 x with
  | some (i, fs) => if fs.length < 1000 then .ok l (h1.set i (.ins c (fput f v fs))) else .fail
  | none => .fail
def gFldT (K : PySem.W.Frag) (to : TE) (f : Str) : TG := fun v σ H Q => to σ H fun x H1 => ∃ a C dx fs, x = .ref a ∧ H1 a = some (.ins C dx fs) ∧ Cls K C ∧ NoAttr K C f ∧ fs.length < 1000 ∧ Q σ (upd H1 a (.ins C dx (putF f v fs)))
theorem pg_fld {o : Expr} {to : TE} {f : Str} {pos : Pos} (ho : PE X o to) (ha : ∀ v, assign (.Attribute o f pos) X.env v = (do
      let ov ← holding [v] (eval o X.env)
      standAt pos.atName
      holding [v, ov] (setAttr ov f v)
      release [v, ov] []) := by intro _; rfl) : PG X (.Attribute o f pos) (gFldT X.K to f) := by
  refine ⟨fun pins s σ H v u Q I r h => ?_⟩
  rw [ha]
  refine wpAny_bind (wpAny_holding (thn (ho.run pins s σ H _ I h) fun ov s1 ⟨x, H1, I1, r1, a, C, dx, fs, ex, ea, c, n, l, q1⟩ => ?_))
  subst ex
  obtain rfl : ov = Value.ref a := r1
  refine wpAny_bind (wpAny_standAt (wpAny_bind (wpAny_holding (setattr_ok I1 ea c n l r fun s3 I3 => ?_))))
  exact wpAny_release ⟨σ, _, I3, q1⟩
theorem HR.writeIns {K : PySem.W.Frag} {g : Gh} {H : Hp} {h : Hv} (R : HR K g H h) {c f : Tx} {i : Nat} {a dx : Addr} {fs : List (Tx × Val)} {gs : List (Str × V)} {v : Val} {x : V} (hm : g.m[i]? = some a) (fr : FR K g H fs gs) (rx : VR K g H v x) :
    Ext g H g (upd H a (.ins (clsA K c) dx (putF (sOf f) x gs))) ∧ HR K g (upd H a (.ins (clsA K c) dx (putF (sOf f) x gs))) (h.set i (.ins c (fput f v fs))) :=
  R.write (ob := .ins c (fput f v fs)) (o' := .ins (clsA K c) dx (putF (sOf f) x gs)) hm fun E => ⟨dx, _, upd_same, FR.put (rx.ext R E) ⟨fr.1, fr.2.ext R E⟩⟩
theorem gg_fld (c f : Tx) {o : Expr} {d : Den} {x : Str} {pos : Pos} (ho : GE X W o d) (cl : Cls X.K (clsA X.K c)) (n : NoAttr X.K (clsA X.K c) (sOf f)) (hx : x = sOf f := by decide +kernel) (ha : ∀ v, assign (.Attribute o x pos) X.env v = (do
      let ov ← holding [v] (eval o X.env)
      standAt pos.atName
      holding [v, ov] (setAttr ov x v)
      release [v, ov] []) := by intro _; rfl) : GG X W (.Attribute o x pos) (gFld c f d) := by
  subst hx
  refine PG.imp (pg_fld ho ha) fun y σ H Q ⟨g, l, h, v, S, R, r, A⟩ => ?_
  refine tG_T S R A fun x h1 g1 H1 x' E S1 R1 r1 A1 => ?_
  split at A1
  · rename_i i fs e
    obtain ⟨rfl, a, dx, gs, rfl, hm, ha, fr⟩ := insOf_ok R1 r1 e
    split at A1
    · rename_i hl
      obtain ⟨E2, R2⟩ := R1.writeIns (c := c) (f := f) (dx := dx) hm fr (r.ext R E)
      exact ⟨a, _, dx, gs, rfl, ha, cl, n, by rw [fr.length]; exact hl, A1 g1 _ σ E2 R2 (S1.ext R1 E2)⟩
    · exact A1.elim
  · exact A1.elim
/-- o.f = e -/
theorem gs_fld (c f : Tx) {o e : Expr} {d de : Den} {x : Str} {pos pos' : Pos} (he : GE X W e de) (ho : GE X W o d) (cl : Cls X.K (clsA X.K c)) (n : NoAttr X.K (clsA X.K c) (sOf f)) (hx : x = sOf f := by decide +kernel) (hs : swapsWith e (some (.Attribute o x pos')) pos.line X.env = pure false := by rfl) :
    GS X W (.Assign [.Attribute o x pos'] e pos) (sAsg de (gFld c f d)) := by
  subst hx
  refine PS.imp (ps_fld ho he hs) fun D σ H ⟨g, l, h, S, R, A⟩ => ?_
  refine tG_to S R A fun y h1 g1 H1 y' E S1 R1 ry A1 => ?_
  unfold gFld at A1
  cases eo : d l h1 with
  | ok x h2 =>
    rw [eo] at A1
    refine ⟨g1, l, h1, S1, R1, ?_⟩
    rw [eo]
    intro g2 H2 x' E2 R2 rx
    simp only [Res.toT_ok] at A1
    cases ei : insOf c h2 x with
    | none => rw [ei] at A1; exact A1.elim
    | some q =>
      obtain ⟨i, fs⟩ := q
      rw [ei] at A1
      simp only at A1
      obtain ⟨rfl, a, dx, gs, rfl, hm, ha, fr⟩ := insOf_ok R2 rx ei
      split at A1
      · rename_i hl
        obtain ⟨E3, R3⟩ := R2.writeIns (c := c) (f := f) (dx := dx) hm fr (ry.ext R1 E2)
        exact ⟨a, _, dx, gs, rfl, ha, cl, n, by rw [fr.length]; exact hl, A1 g2 _ σ (E2.trans E3) R3 (S1.ext R1 (E2.trans E3))⟩
      · exact A1.elim
  | exc x h2 =>
    rw [eo] at A1
    refine ⟨g1, l, h1, S1, R1, ?_⟩
    rw [eo]
    exact fun g2 H2 cls dd E2 R2 re => A1 g2 H2 σ cls dd E2 R2 (S1.ext R1 E2) re
  | fail => rw [eo] at A1; exact A1.elim
/-- o.f += e, whole numbers -/
def sFldAug (c f : Tx) (o e : Den) : Stm := fun l h => (o l h).to l fun x h1 => match insOf c h1 x with
  | some (_, fs) => (match fget f fs with
    | some (.int i) => (e l h1).to l fun y h2 => (match y with
      | .int j => (match insOf c h2 x with
        | some (k, fs') => if fs'.length < 1000 then .nx l (h2.set k (.ins c (fput f (.int (i + j)) fs'))) else .fail
        | none => .fail)
      | _ => .fail)
    | _ => .fail)
  | none => .fail
theorem gs_fldaug (c f : Tx) {o e : Expr} {d de : Den} {x : Str} {pos tpos : Pos} (ho : GE X W o d) (he : GE X W e de) (cl : Cls X.K (clsA X.K c)) (n : NoAttr X.K (clsA X.K c) (sOf f)) (hx : x = sOf f := by decide +kernel) :
    GS X W (.AugAssign (.Attribute o x tpos) .Add e pos) (sFldAug c f d de) := by
  subst hx
  refine PS.imp (ps_fldaug ho he in_add) fun D σ H ⟨g, l, h, S, R, A⟩ => ?_
  refine tG_to S R A fun x h1 g1 H1 x' E S1 R1 r1 A1 => ?_
  split at A1
  · rename_i q fs e0
    obtain ⟨rfl, a, dx, gs, rfl, hm, ha, fr⟩ := insOf_ok R1 r1 e0
    split at A1
    · rename_i i ei
      obtain ⟨y, e1, r2⟩ := (FR.get fr).1 _ ei
      simp only [VR] at r2
      subst r2
      refine ⟨a, _, dx, gs, _, rfl, ha, cl, n, e1, ?_⟩
      refine tG_to S1 R1 A1 fun y h2 g2 H2 y' E2 S2 R2 ry A2 => ?_
      split at A2
      · rename_i j
        simp only [VR] at ry
        subst ry
        split at A2
        · rename_i k fs' e3
          obtain ⟨e4, a', dx', gs', e5, hm', ha', fr'⟩ := insOf_ok R2 (r1.ext R1 E2) e3
          cases e5
          split at A2
          · rename_i hl
            obtain ⟨E3, R3⟩ := R2.writeIns (c := c) (f := f) (dx := dx') (v := .int (i + j)) (x := .int (i + j)) hm' fr' (by simp only [VR])
            exact ⟨i, j, rfl, rfl, dx', gs', ha', by rw [fr'.length]; exact hl, A2 g2 _ σ E3 R3 (S2.ext R2 E3)⟩
          · exact A2.elim
        · exact A2.elim
      · exact A2.elim
    · exact A1.elim
  · exact A1.elim
/-! methods -/
/-- a method of the class c keeps D -/
structure FnM (P : Program) (w : World) (K : PySem.W.Frag) (mg : Str → Option Value) (base : Heap) (k : Nat) (D : DF) (c m : Tx) (ps : List Str) : Prop where
  ok : ∃ fd, FnOk P w K mg base (L2.CX P w) k (He.ma K (clsA K c) (sOf m)) fd ps (spG K D ps.length) ∧ Binds K fd ps []
  me : Meth K (clsA K c) (sOf m) (He.ma K (clsA K c) (sOf m))
def AllM (P : Program) (w : World) (K : PySem.W.Frag) (mg : Str → Option Value) (base : Heap) (msig : List (Tx × Tx × List Str)) (n0 k : Nat) (Γ : Gam) : Prop := ∀ (j : Nat) (c m : Tx) (ps : List Str), msig[j]? = some (c, m, ps) → FnM P w K mg base k (Γ (n0 + j)) c m ps
theorem pe_methS' {CX : CXT} {k : Nat} {C f : Addr} {fd : FuncData} {ps : List Str} {sp : Sp} {E : L2.St → XK} {m : Str} {pos apos : Pos} {o e : Expr} {es : List Expr} {ta : TE} {t : TA} {pl : Sem Bool} (he : PE X o ta) (c : Cls X.K C) (hm : Meth X.K C m f) (F : FnOk X.prog X.w X.K X.mg X.base CX k f fd ps sp) (hr : Room k X.A) (hb : Binds X.K fd ps []) (hx : ∀ σ, PassesAt CX X σ (E σ)) (ha : PA X (e :: es) t)
    (hst : starEach (e :: es) X.env = (false, eval e X.env) :: starEach es X.env := by rfl) (hpl : (backTo pos (starEach es X.env)).any (·.1) = false := by rfl)
    (ht : eval (.Call (.Attribute o m apos) (e :: es) [] pos) X.env = (do
      let ov ← eval o X.env
      standAt apos.atName
      let (f, first) ← holding [ov] (getMethod ov m pl)
      callWith pos f first (backTo pos (starEach (e :: es) X.env)) (backToKw pos (keywordEach [] X.env))) := by rfl) :
    PE X (.Call (.Attribute o m apos) (e :: es) [] pos) (fun σ H Q => ta σ H fun x H1 => ∃ a dx fs, x = .ref a ∧ H1 a = some (.ins C dx fs) ∧ fs.lookup m = none ∧ t σ H1 fun vs H2 => sp (x :: vs) H2 Q (E σ)) := by
  refine ⟨fun pins s σ H Q I h => ?_⟩
  refine PySem.W.methodCall_KW (pl := pl) (thn (he.run pins s σ H _ I h) fun u s1 ⟨x, H1, I1, rx, a, dx, fs, ex, ea, l, q⟩ => ?_) ht
  subst ex
  obtain rfl : u = Value.ref a := rx
  refine getmeth_ok I1 ea c hm l ?_
  refine PySem.W.callWith_K (first := [.ref a]) (h₀ := X.base) I.ok.mod.kin hm.kp (thn (ha.run pos pins s1 σ H1 _ I1 q) fun us s2 ⟨vs, H2, I2, r, q2⟩ => ⟨I2.kIn, ?_⟩) hst hpl
  exact run_fnS (us := .ref a :: us) (vs := .ref a :: vs) F hr hb (hx σ) I2 (.cons rfl r) q2
theorem pe_methS0' {CX : CXT} {k : Nat} {C f : Addr} {fd : FuncData} {ps : List Str} {sp : Sp} {E : L2.St → XK} {m : Str} {pos apos : Pos} {o : Expr} {ta : TE} {pl : Sem Bool} (he : PE X o ta) (c : Cls X.K C) (hm : Meth X.K C m f) (F : FnOk X.prog X.w X.K X.mg X.base CX k f fd ps sp) (hr : Room k X.A) (hb : Binds X.K fd ps []) (hx : ∀ σ, PassesAt CX X σ (E σ))
    (ht : eval (.Call (.Attribute o m apos) [] [] pos) X.env = (do
      let ov ← eval o X.env
      standAt apos.atName
      let (f, first) ← holding [ov] (getMethod ov m pl)
      callWith pos f first (backTo pos (starEach [] X.env)) (backToKw pos (keywordEach [] X.env))) := by rfl) :
    PE X (.Call (.Attribute o m apos) [] [] pos) (fun σ H Q => ta σ H fun x H1 => ∃ a dx fs, x = .ref a ∧ H1 a = some (.ins C dx fs) ∧ fs.lookup m = none ∧ sp [x] H1 Q (E σ)) := by
  refine ⟨fun pins s σ H Q I h => ?_⟩
  refine PySem.W.methodCall_KW (pl := pl) (thn (he.run pins s σ H _ I h) fun u s1 ⟨x, H1, I1, rx, a, dx, fs, ex, ea, l, q⟩ => ?_) ht
  subst ex
  obtain rfl : u = Value.ref a := rx
  refine getmeth_ok I1 ea c hm l ?_
  exact PySem.W.callWith_K0 (first := [.ref a]) I1.kIn hm.kp (run_fnS (us := [.ref a]) (vs := [.ref a]) F hr hb (hx σ) I1 (.cons rfl .nil) q)
/-- o.m(..) -/
def dMth (c m : Tx) (D : DF) (o : Den) (r : DenG (List Val)) : Den := fun l h => (o l h).bind fun x h1 => match insOf c h1 x with
  | some (_, fs) => (match fget m fs with
    | none => (r l h1).bind fun vs h2 => D (x :: vs) h2
    | some _ => .fail)
  | none => .fail
theorem ge_mth (c m : Tx) {D : DF} {k n : Nat} {ps : List Str} {x : Str} {apos pos : Pos} {o e : Expr} {es : List Expr} {d : Den} {da : DenG (List Val)} {pl : Sem Bool} (ho : GE X W o d) (cl : Cls X.K (clsA X.K c)) (F : FnM X.prog X.w X.K X.mg X.base k D c m ps) (hr : Room k X.A) (tk : Takes X W) (ha : GAN X W (e :: es) n da) (hx : x = sOf m := by decide +kernel)
    (hn : n + 1 = ps.length := by rfl) (he : starEach (e :: es) X.env = (false, eval e X.env) :: starEach es X.env := by rfl) (hpl : (backTo pos (starEach es X.env)).any (·.1) = false := by rfl)
    (ht : eval (.Call (.Attribute o x apos) (e :: es) [] pos) X.env = (do
      let ov ← eval o X.env
      standAt apos.atName
      let (f, first) ← holding [ov] (getMethod ov x pl)
      callWith pos f first (backTo pos (starEach (e :: es) X.env)) (backToKw pos (keywordEach [] X.env))) := by rfl) : GE X W (.Call (.Attribute o x apos) (e :: es) [] pos) (dMth c m D d da) := by
  subst hx
  obtain ⟨fd, F1, b⟩ := F.ok
  refine PE.imp (pe_methS' ho cl F.me F1 hr b (fun σ => passAt tk σ) ha.ga he hpl ht) fun σ H Q ⟨g, l, h, S, R, A⟩ => ?_
  refine tG_of S R A fun x h1 g1 H1 x' E S1 R1 r1 A1 => ?_
  split at A1
  · rename_i q fs e0
    obtain ⟨rfl, a, dx, gs, rfl, hm, ha', fr⟩ := insOf_ok R1 r1 e0
    split at A1
    · rename_i ef
      refine ⟨a, dx, gs, rfl, ha', (FR.get fr).2 ef, ?_⟩
      refine ⟨g1, l, h1, S1, R1, ?_⟩
      cases ed : da l h1 with
      | ok vs h2 =>
        rw [ed] at A1
        intro g' H' ws E2 R' r
        exact spG_of (by rw [List.length_cons, ha.len l h1 vs h2 ed, hn]) R' (VRs.cons (r1.ext R1 E2) r) (After.ext E2 A1)
      | exc x h2 => rw [ed] at A1; exact A1
      | fail => rw [ed] at A1; exact A1
    · exact A1.elim
  · exact A1.elim
theorem ge_mth0 (c m : Tx) {D : DF} {k : Nat} {ps : List Str} {x : Str} {apos pos : Pos} {o : Expr} {d : Den} {pl : Sem Bool} (ho : GE X W o d) (cl : Cls X.K (clsA X.K c)) (F : FnM X.prog X.w X.K X.mg X.base k D c m ps) (hr : Room k X.A) (tk : Takes X W) (hx : x = sOf m := by decide +kernel)
    (hn : 1 = ps.length := by rfl)
    (ht : eval (.Call (.Attribute o x apos) [] [] pos) X.env = (do
      let ov ← eval o X.env
      standAt apos.atName
      let (f, first) ← holding [ov] (getMethod ov x pl)
      callWith pos f first (backTo pos (starEach [] X.env)) (backToKw pos (keywordEach [] X.env))) := by rfl) : GE X W (.Call (.Attribute o x apos) [] [] pos) (dMth c m D d dNil) := by
  subst hx
  obtain ⟨fd, F1, b⟩ := F.ok
  refine PE.imp (pe_methS0' ho cl F.me F1 hr b (fun σ => passAt tk σ) ht) fun σ H Q ⟨g, l, h, S, R, A⟩ => ?_
  refine tG_of S R A fun x h1 g1 H1 x' E S1 R1 r1 A1 => ?_
  split at A1
  · rename_i q fs e0
    obtain ⟨rfl, a, dx, gs, rfl, hm, ha', fr⟩ := insOf_ok R1 r1 e0
    split at A1
    · rename_i ef
      exact ⟨a, dx, gs, rfl, ha', (FR.get fr).2 ef, spG_of (by rw [← hn]; rfl) R1 (VRs.one r1) A1⟩
    · exact A1.elim
  · exact A1.elim
/-! C(..) -/
theorem run_makeS {CX : CXT} {k : Nat} {C f : Addr} {fd : FuncData} {ps : List Str} {sp : Sp} {E : L2.St → XK} {pins : List (Addr × Obj)} {σ : L2.St} {H : Hp} {s : Shared} {Q : VK} {us : List Value} {vs : List V} (M : Mk X.K C f) (F : FnOk X.prog X.w X.K X.mg X.base CX k f fd ps sp) (hr : Room (k + 1) X.A) (hb : Binds X.K fd ps [])
    (hx : PassesAt CX X σ (E σ)) (I : Inv X pins σ H s) (r : Vals vs us)
    (h : ∀ x dx, H x = none → H dx = none → dx ≠ x → sp (.ref x :: vs) (upd (upd H dx (.own x)) x (.ins C dx [])) (fun v H2 => v = .non ∧ Q (.ref x) H2) (E σ)) :
    wpAny (model X.prog X.w) X.A (call (.ref C) us) (EP X pins σ Q) X.xe s := by
  have hq := h (s.heap.objs.size + 1) s.heap.objs.size (I.hok.fresh (Nat.le_succ _)) (I.hok.fresh (Nat.le_refl _)) (Nat.ne_of_lt (Nat.lt_succ_self _))
  have I2 := Inv.made (C := C) I
  have r2 : Vals (V.ref (s.heap.objs.size + 1) :: vs) (Value.ref (s.heap.objs.size + 1) :: us) := .cons rfl r
  have hl : (Value.ref (s.heap.objs.size + 1) :: us).length = ps.length := by
    have e := r2.length
    rw [F.len _ _ _ _ hq] at e
    exact e.symm
  have b := hb _ (Value.ref (s.heap.objs.size + 1) :: us) I2.kIn (by rw [List.append_nil]; exact hl)
  rw [List.append_nil] at b
  refine wpAny_call (make_map (f := f) I.kIn M.makes M.init (beq_iff_eq.mp M.fn) (codeAny_mono (F.run _ X.stack _ _ ⟨Value.ref (s.heap.objs.size + 1) :: us, []⟩ (Value.ref (s.heap.objs.size + 1) :: us) _ _ (E σ) (hr.make C us [])
    (I2.env0.make C us []) b r2 hq) fun r s' hq' => ?_))
  cases r with
  | error e => exact hx pins _ _ e s' I2 hq'
  | ok fl =>
    cases fl with
    | ret u =>
      obtain ⟨v, H', I3, rv, ev, q3⟩ := I2.after hq'
      subst ev
      exact ⟨rv, ⟨V.ref (s.heap.objs.size + 1), H', I3, rfl, q3⟩⟩
    | next => exact False.elim hq'
    | brk => exact False.elim hq'
    | cont => exact False.elim hq'
theorem pe_makeS {CX : CXT} {k : Nat} {C f : Addr} {fd : FuncData} {ps : List Str} {sp : Sp} {E : L2.St → XK} {x : Str} {p pos : Pos} {e : Expr} {es : List Expr} {t : TA} (M : Mk X.K C f) (F : FnOk X.prog X.w X.K X.mg X.base CX k f fd ps sp) (hr : Room (k + 1) X.A) (hg : Gl X x) (hm : X.mg x = some (.ref C)) (hb : Binds X.K fd ps []) (hx : ∀ σ, PassesAt CX X σ (E σ))
    (ha : PA X (e :: es) t) (hdb : (x == ("__debug__" : Str)) = false := by decide) (he : starEach (e :: es) X.env = (false, eval e X.env) :: starEach es X.env := by rfl) (hpl : (backTo pos (starEach es X.env)).any (·.1) = false := by rfl) :
    PE X (.Call (.Name x p) (e :: es) [] pos) (fun σ H Q => t σ H fun vs H1 => ∀ x dx, H1 x = none → H1 dx = none → dx ≠ x → sp (.ref x :: vs) (upd (upd H1 dx (.own x)) x (.ins C dx [])) (fun v H2 => v = .non ∧ Q (.ref x) H2) (E σ)) := by
  refine ⟨fun pins s σ H Q I h => ?_⟩
  refine wpAny_Call_Name_kw (ld_glob I hg hm ?_ hdb)
  refine PySem.W.callWith_K (h₀ := X.base) I.ok.mod.kin M.kp (thn (ha.run pos pins s σ H _ I h) fun us s1 ⟨vs, H1, I1, r, q⟩ => ⟨I1.kIn, ?_⟩) he hpl
  exact run_makeS M F hr hb (hx σ) I1 r q
def dMake (c : Tx) (D : DF) (r : DenG (List Val)) : Den := fun l h => (r l h).bind fun vs h1 => (D (.ref h1.length :: vs) (h1 ++ [.ins c []])).bind fun v h2 => match v with
  | .non => .ok (.ref h1.length) h2
  | _ => .fail
theorem ge_make (c : Tx) {D : DF} {k n : Nat} {ps : List Str} {x : Str} {p pos : Pos} {e : Expr} {es : List Expr} {da : DenG (List Val)} (F : FnM X.prog X.w X.K X.mg X.base k D c [95, 95, 105, 110, 105, 116, 95, 95] ps) (M : Mk X.K (clsA X.K c) (He.ma X.K (clsA X.K c) (sOf [95, 95, 105, 110, 105, 116, 95, 95]))) (hm : X.mg x = some (.ref (clsA X.K c))) (hr : Room (k + 1) X.A) (tk : Takes X W) (ha : GAN X W (e :: es) n da)
    (hn : n + 1 = ps.length := by rfl) (hg : Gl X x := by rfl) (hdb : (x == ("__debug__" : Str)) = false := by decide +kernel)
    (he : starEach (e :: es) X.env = (false, eval e X.env) :: starEach es X.env := by rfl) (hpl : (backTo pos (starEach es X.env)).any (·.1) = false := by rfl) : GE X W (.Call (.Name x p) (e :: es) [] pos) (dMake c D da) := by
  obtain ⟨fd, F1, b⟩ := F.ok
  refine PE.imp (pe_makeS M F1 hr hg hm b (fun σ => passAt tk σ) ha.ga hdb he hpl) fun σ H Q ⟨g, l, h, S, R, A⟩ => ?_
  refine ⟨g, l, h, S, R, ?_⟩
  unfold dMake at A
  cases ed : da l h with
  | ok vs h1 =>
    rw [ed] at A
    intro g1 H1 ws E R1 r x dx nx ndx ne
    obtain ⟨Ea, Ra⟩ := R1.grow (o := .own x) ndx
    have nx2 : upd H1 dx (.own x) x = none := by rw [upd_ne (Ne.symm ne)]; exact nx
    obtain ⟨Eb, Rb⟩ := Ra.push (o := .ins (clsA X.K c) dx []) (ob := .ins c []) nx2 ⟨dx, [], upd_same, rfl, VRs.nil⟩
    have A2 := After.ext (E.trans (Ea.trans Eb)) A
    simp only [Res.bind_ok] at A2
    have rx : VR X.K ⟨g1.m ++ [x], g1.r⟩ (upd (upd H1 dx (.own x)) x (.ins (clsA X.K c) dx [])) (.ref h1.length) (.ref x) := by
      simp only [VR]
      refine ⟨x, rfl, ?_⟩
      rw [← R1.len]
      simp
    refine spG_of (W := W) (σ := σ) (args := .ref h1.length :: vs) (by rw [List.length_cons, ha.len l h vs h1 ed, hn]) Rb (VRs.cons rx (r.ext R1 (Ea.trans Eb))) ?_
    cases eD : D (.ref h1.length :: vs) (h1 ++ [.ins c []]) with
    | ok v h2 =>
      rw [eD] at A2
      simp only [Res.bind_ok] at A2
      intro g' H' x' E' R' r'
      cases v with
      | non =>
        simp only [VR] at r'
        exact ⟨r', A2 g' H' _ E' R' (rx.ext Rb E')⟩
      | _ => exact A2.elim
    | exc y h2 => rw [eD] at A2; exact A2
    | fail => rw [eD] at A2; exact A2
  | exc x h1 => rw [ed] at A; exact A
  | fail => rw [ed] at A; exact A
end
theorem levels2 {P : Program} {w : World} {K : PySem.W.Frag} {mg : Str → Option Value} {base : Heap} {sig : List (Str × List Str)} {msig : List (Tx × Tx × List Str)} {n0 : Nat} {D : Gam → Gam}
    (h0 : ∀ (j : Nat) (x : Str) (ps : List Str), sig[j]? = some (x, ps) → mg x = some (.ref (He.ga K x)) ∧ PySem.W.keepIn K (.ref (He.ga K x)) = true ∧ ∃ fd, Binds K fd ps [])
    (m0 : ∀ (j : Nat) (c m : Tx) (ps : List Str), msig[j]? = some (c, m, ps) → Meth K (clsA K c) (sOf m) (He.ma K (clsA K c) (sOf m)) ∧ ∃ fd, Binds K fd ps [])
    (step : ∀ k Γ, AllK P w K mg base sig k Γ → AllM P w K mg base msig n0 k Γ → (∀ (j : Nat) (x : Str) (ps : List Str), sig[j]? = some (x, ps) → FnK P w K mg base (k + 2) (D Γ j) x ps) ∧ ∀ (j : Nat) (c m : Tx) (ps : List Str), msig[j]? = some (c, m, ps) → FnM P w K mg base (k + 2) (D Γ (n0 + j)) c m ps) :
    ∀ k, AllK P w K mg base sig (2 * k) (lev D k) ∧ AllM P w K mg base msig n0 (2 * k) (lev D k)
  | 0 => ⟨fun j x ps e => by
    obtain ⟨g, kp, fd, b⟩ := h0 j x ps e
    refine ⟨⟨fd, ⟨fun vs H Q E h => h.1, fun A outer s H args us vs Q E hr he hb hv hs => ?_⟩, b⟩, g, kp⟩
    obtain ⟨_, _, _, _, _, _, z⟩ := hs
    exact z.elim, fun j c m ps e => by
    obtain ⟨me, fd, b⟩ := m0 j c m ps e
    refine ⟨⟨fd, ⟨fun vs H Q E h => h.1, fun A outer s H args us vs Q E hr he hb hv hs => ?_⟩, b⟩, me⟩
    obtain ⟨_, _, _, _, _, _, z⟩ := hs
    exact z.elim⟩
  | k + 1 => step (2 * k) _ (levels2 h0 m0 step k).1 (levels2 h0 m0 step k).2
section
variable {X : Cx} {W : WX}
theorem ge_extend {o e : Expr} {dx de : Den} {apos cpos : Pos} (ho : GE X W o dx) (he : GE X W e de) (hbase : attributeBase o "extend" X.env (eval o X.env) = eval o X.env := by rfl)
    (hfew : ((backTo cpos (starEach [e] X.env)).all (fun x => !x.1) && (backToKw cpos (keywordEach [] X.env)).all (fun x => x.1.isSome)
      && decide (([e] : List Expr).length + ([] : List Keyword).length + (if ([] : List Keyword).isEmpty then 0 else 1) < 30)) = true := by rfl)
    (hline : (apos.endLine == cpos.line) = true := by rfl) (hs : starEach [e] X.env = (false, eval e X.env) :: starEach [] X.env := by rfl) (hplain : (backTo cpos (starEach [] X.env)).any (·.1) = false := by rfl) :
    GE X W (.Call (.Attribute o "extend" apos) [e] [] cpos) (dMeth1 isLst (fun x v h => if (lstOf h v).isSome then vExtend x v h else .fail) dx de) := ge_meth1 m1_extend_l PySem.F.plainAttrs_list PySem.F.slot_list_extend PySem.F.type_list_extend ho he hbase hfew hline hs hplain
end
end GH
set_option Elab.async false
set_option linter.all false
set_option maxRecDepth 100000
set_option maxHeartbeats 2000000
set_option autoImplicit false
namespace L01
open PySem PySem.Spec PyProof.Rows L2 GH
def top (i : Nat) : Stmt := PySem.Challenge.pw_grovehouse_k01_shapes_and_their_texts.main.body.getD i (.Pass ⟨0, 0, 0, 0⟩)
def mth (i j : Nat) : Stmt := match top i with
  | .ClassDef _ _ _ b _ _ _ _ _ _ _ => b.getD j (.Pass ⟨0, 0, 0, 0⟩)
  | s => s

noncomputable def b_check_kind (Γ : Gam) : Stm := (sSeq (sAsg (dVar 0) (gTup 2 (gsCons (gName 1) (gsCons (gName 2) gsNil))))
    (sSeq (sIf (dOr (dB (dBin vNotIn (dVar 1) (dTup (dCons (dC (.int 1)) (dCons (dC (.int 2)) dNil))))) (dOr (dNot (dB (dChain vLe vLe (dC (.int 1)) (dLen (dVar 2)) (dC (.int 3))))) (dB (dBin vNe (dFn vList (dVar 2)) (dFn vSortSet (dVar 2)))))) (sSeq (sRaise [73, 110, 118, 97, 108, 105, 100, 75, 105, 110, 100])
    sNext) sNext)
    (sSeq (sIf (dNot (dTru (dFn vAll (dLc frozen [3] (iSeq (dVar 2)) (gName 3) dYes (dAndV (dBin vEq (dLen (dVar 3)) (dC (.int 1))) (dBin vIn (dVar 3) (dC (.str [97, 98, 99, 100, 101, 102, 103, 104, 105, 106, 107, 108, 109, 110, 111, 112, 113, 114, 115, 116, 117, 118, 119, 120, 121, 122])))))))) (sSeq (sRaise [73, 110, 118, 97, 108, 105, 100, 75, 105, 110, 100])
    sNext) sNext)
    sNext)))
noncomputable def d_check_kind (Γ : Gam) : DF := fun args h => runDef 4 (b_check_kind Γ) args h
noncomputable def b_is_shape (Γ : Gam) : Stm := (sSeq (sExpr (dCall (Γ 0) (dCons (dVar 0) dNil)))
    (sSeq (sAsg (dVar 0) (gTup 2 (gsCons (gName 3) (gsCons (gName 4) gsNil))))
    (sSeq (sAsg (dLstM (dCons (dVar 1) dNil)) (gName 2))
    (sSeq (sWhile (dTru (dVar 2)) (sSeq (sAsg (dMeth0 isLst vPop (dVar 2)) (gName 5))
    (sSeq (sIf (dNot (dTru (dIsi .tuple (dVar 5)))) (sSeq (sRet (dC (.bl false)))
    sNext) sNext)
    (sSeq (sIf (dB (dBin vEq (dLen (dVar 5)) (dC (.int 0)))) (sSeq sCont
    sNext) sNext)
    (sSeq (sIf (dOr (dB (dBin vNe (dLen (dVar 5)) (dBin vAdd (dVar 3) (dC (.int 1))))) (dOr (dNot (dTru (dIsi .str (dBin vIx (dVar 5) (dC (.int 0)))))) (dB (dBin vNotIn (dBin vIx (dVar 5) (dC (.int 0))) (dVar 4))))) (sSeq (sRet (dC (.bl false)))
    sNext) sNext)
    (sSeq (sExpr (dMeth1 isLst (fun x v h => if (lstOf h v).isSome then vExtend x v h else .fail) (dVar 2) (dFn vList (dCut (dVar 5) (oSome (dC (.int 1))) oNone))))
    sNext))))))
    (sSeq (sRet (dC (.bl true)))
    sNext)))))
noncomputable def d_is_shape (Γ : Gam) : DF := fun args h => tidy (runDef 6 (b_is_shape Γ) args h) h
noncomputable def b_all_elements (Γ : Gam) : Stm := (sSeq (sAsg (dLstM dNil) (gName 1))
    (sSeq (sAsg (dLstM (dCons (dTup (dCons (dTup dNil) (dCons (dVar 0) dNil))) dNil)) (gName 2))
    (sSeq (sWhile (dTru (dVar 2)) (sSeq (sAsg (dMeth0 isLst vPop (dVar 2)) (gTup 2 (gsCons (gName 3) (gsCons (gName 4) gsNil))))
    (sSeq (sIf (dTru (dVar 4)) (sSeq (sExpr (dMeth1 isLst vAppend (dVar 1) (dTup (dCons (dVar 3) (dCons (dVar 4) dNil)))))
    (sSeq (sFor (iEnumG (dCut (dVar 4) (oSome (dC (.int 1))) oNone)) (gTup 2 (gsCons (gName 5) (gsCons (gName 6) gsNil))) (sSeq (sExpr (dMeth1 isLst vAppend (dVar 2) (dTup (dCons (dBin vAdd (dVar 3) (dTup (dCons (dVar 5) dNil))) (dCons (dVar 6) dNil)))))
    sNext))
    sNext)) sNext)
    sNext)))
    (sSeq (sRet (dVar 1))
    sNext))))
noncomputable def d_all_elements (Γ : Gam) : DF := fun args h => tidy (runDef 7 (b_all_elements Γ) args h) h
noncomputable def b_size (Γ : Gam) : Stm := (sSeq (sRet (dLen (dCall (Γ 2) (dCons (dVar 0) dNil))))
    sNext)
noncomputable def d_size (Γ : Gam) : DF := fun args h => runDef 1 (b_size Γ) args h
noncomputable def b_paths (Γ : Gam) : Stm := (sSeq (sRet (dFn vSorted (dLc frozen [1, 2] (iSeq (dCall (Γ 2) (dCons (dVar 0) dNil))) (gTup 2 (gsCons (gName 1) (gsCons (gName 2) gsNil))) dYes (dVar 1))))
    sNext)
noncomputable def d_paths (Γ : Gam) : DF := fun args h => runDef 3 (b_paths Γ) args h
noncomputable def b_part (Γ : Gam) : Stm := (sSeq (sAsg (dVar 0) (gName 2))
    (sSeq (sFor (iSeq (dVar 1)) (gName 3) (sSeq (sIf (dOr (dNot (dTru (dVar 2))) (dOr (dB (dBin vGe (dBin vAdd (dVar 3) (dC (.int 1))) (dLen (dVar 2)))) (dB (dBin vLt (dVar 3) (dC (.int 0)))))) (sSeq (sRaise [78, 111, 83, 117, 99, 104, 69, 108, 101, 109, 101, 110, 116])
    sNext) sNext)
    (sSeq (sAsg (dBin vIx (dVar 2) (dBin vAdd (dVar 3) (dC (.int 1)))) (gName 2))
    sNext)))
    (sSeq (sIf (dNot (dTru (dVar 2))) (sSeq (sRaise [78, 111, 83, 117, 99, 104, 69, 108, 101, 109, 101, 110, 116])
    sNext) sNext)
    (sSeq (sRet (dVar 2))
    sNext))))
noncomputable def d_part (Γ : Gam) : DF := fun args h => runDef 4 (b_part Γ) args h
noncomputable def b_with_part (Γ : Gam) : Stm := (sSeq (sAsg (dLstM dNil) (gName 3))
    (sSeq (sAsg (dVar 0) (gName 4))
    (sSeq (sFor (iSeq (dVar 1)) (gName 5) (sSeq (sIf (dOr (dNot (dTru (dVar 4))) (dOr (dB (dBin vGe (dBin vAdd (dVar 5) (dC (.int 1))) (dLen (dVar 4)))) (dB (dBin vLt (dVar 5) (dC (.int 0)))))) (sSeq (sRaise [78, 111, 83, 117, 99, 104, 69, 108, 101, 109, 101, 110, 116])
    sNext) sNext)
    (sSeq (sExpr (dMeth1 isLst vAppend (dVar 3) (dTup (dCons (dVar 4) (dCons (dVar 5) dNil)))))
    (sSeq (sAsg (dBin vIx (dVar 4) (dBin vAdd (dVar 5) (dC (.int 1)))) (gName 4))
    sNext))))
    (sSeq (sAsg (dVar 2) (gName 6))
    (sSeq (sFor (iSeq (dFn vRev (dVar 3))) (gTup 2 (gsCons (gName 7) (gsCons (gName 5) gsNil))) (sSeq (sAsg (dBin vAdd (dBin vAdd (dCut (dVar 7) oNone (oSome (dBin vAdd (dVar 5) (dC (.int 1))))) (dTup (dCons (dVar 6) dNil))) (dCut (dVar 7) (oSome (dBin vAdd (dVar 5) (dC (.int 2)))) oNone)) (gName 6))
    sNext))
    (sSeq (sRet (dVar 6))
    sNext))))))
noncomputable def d_with_part (Γ : Gam) : DF := fun args h => tidy (runDef 8 (b_with_part Γ) args h) h
noncomputable def b_write_shape (Γ : Gam) : Stm := (sSeq (sAsg (dLstM dNil) (gName 1))
    (sSeq (sAsg (dLstM (dCons (dVar 0) dNil)) (gName 2))
    (sSeq (sWhile (dTru (dVar 2)) (sSeq (sAsg (dMeth0 isLst vPop (dVar 2)) (gName 3))
    (sSeq (sIf (dTru (dIsi .str (dVar 3))) (sSeq (sExpr (dMeth1 isLst vAppend (dVar 1) (dVar 3)))
    sNext) (sSeq (sIf (dNot (dTru (dVar 3))) (sSeq (sExpr (dMeth1 isLst vAppend (dVar 1) (dC (.str [46]))))
    sNext) (sSeq (sIf (dB (dBin vEq (dLen (dVar 3)) (dC (.int 2)))) (sSeq (sExpr (dMeth1 isLst vAppend (dVar 1) (dBin vIx (dVar 3) (dC (.int 0)))))
    (sSeq (sExpr (dMeth1 isLst vAppend (dVar 2) (dBin vIx (dVar 3) (dC (.int 1)))))
    sNext)) (sSeq (sExpr (dMeth1 isLst vAppend (dVar 1) (dBin vIx (dVar 3) (dC (.int 0)))))
    (sSeq (sExpr (dMeth1 isLst (fun x v h => if (lstOf h v).isSome then vExtend x v h else .fail) (dVar 2) (dLst (dCons (dC (.str [41])) (dCons (dBin vIx (dVar 3) (dC (.int 2))) (dCons (dC (.str [44])) (dCons (dBin vIx (dVar 3) (dC (.int 1))) (dCons (dC (.str [40])) dNil))))))))
    sNext)))
    sNext))
    sNext))
    sNext)))
    (sSeq (sRet (dMeth1 isStr vJoin (dC (.str [])) (dVar 1)))
    sNext))))
noncomputable def d_write_shape (Γ : Gam) : DF := fun args h => tidy (runDef 4 (b_write_shape Γ) args h) h
noncomputable def b_read_shape (Γ : Gam) : Stm := (sSeq (sExpr (dCall (Γ 0) (dCons (dVar 0) dNil)))
    (sSeq (sAsg (dMake [83, 104, 97, 112, 101, 82, 101, 97, 100, 101, 114] (Γ 27) (dCons (dVar 0) (dCons (dVar 1) dNil))) (gName 2))
    (sSeq (sAsg (dMth [83, 104, 97, 112, 101, 82, 101, 97, 100, 101, 114] [115, 104, 97, 112, 101] (Γ 30) (dVar 2) dNil) (gName 3))
    (sSeq (sIf (dB (dBin vLt (dFld [83, 104, 97, 112, 101, 82, 101, 97, 100, 101, 114] [97, 116] (dVar 2)) (dLen (dVar 1)))) (sSeq (sRaise [73, 110, 118, 97, 108, 105, 100, 83, 104, 97, 112, 101])
    sNext) sNext)
    (sSeq (sRet (dVar 3))
    sNext)))))
noncomputable def d_read_shape (Γ : Gam) : DF := fun args h => tidy (runDef 4 (b_read_shape Γ) args h) h
noncomputable def b__law_tape (Γ : Gam) : Stm := (sSeq (sAsg (dLc frozen [3] (iSeq (dVar 0)) (gName 3) dYes (dFn vAbs (dFn vInt (dVar 3)))) (gName 1))
    (sSeq (sAsg (dC (.int 7)) (gName 2))
    (sSeq (sFor (iSeq (dVar 1)) (gName 3) (sSeq (sAsg (dBin vMod (dFn vInt (dBin vAdd (dBin vMul (dVar 2) (dC (.int 31))) (dVar 3))) (dC (.int 2147483647))) (gName 2))
    sNext))
    (sSeq (sRet (dDisp (((dC (.str [99, 101, 108, 108, 115])), (dVar 1)) :: (((dC (.str [97, 116])), (dC (.int 0))) :: (((dC (.str [108, 101, 102, 116])), (dC (.int 0))) :: (((dC (.str [115, 101, 101, 100])), (dVar 2)) :: (((dC (.str [115, 97, 108, 116])), (dC (.int 0))) :: [])))))))
    sNext))))
noncomputable def d__law_tape (Γ : Gam) : DF := fun args h => runDef 4 (b__law_tape Γ) args h
noncomputable def b__law_take (Γ : Gam) : Stm := (sSeq (sIf (dAnd (dB (dBin vEq (dBin vIx (dVar 0) (dC (.str [108, 101, 102, 116]))) (dC (.int 0)))) (dB (dBin vLt (dBin vIx (dVar 0) (dC (.str [97, 116]))) (dLen (dBin vIx (dVar 0) (dC (.str [99, 101, 108, 108, 115]))))))) (sSeq (sAsg (dBin vIx (dBin vIx (dVar 0) (dC (.str [99, 101, 108, 108, 115]))) (dBin vIx (dVar 0) (dC (.str [97, 116])))) (gSub (dVar 0) (dC (.str [108, 101, 102, 116]))))
    (sSeq (sAsg (dBin vAdd (dBin vIx (dVar 0) (dC (.str [97, 116]))) (dC (.int 1))) (gSub (dVar 0) (dC (.str [97, 116]))))
    sNext)) sNext)
    (sSeq (sIf (dB (dBin vGt (dBin vIx (dVar 0) (dC (.str [108, 101, 102, 116]))) (dC (.int 0)))) (sSeq (sAsg (dBin vMod (dFn vInt (dBin vIx (dVar 0) (dC (.str [108, 101, 102, 116])))) (dVar 1)) (gName 3))
    (sSeq (sAsg (dBin vDiv (dBin vIx (dVar 0) (dC (.str [108, 101, 102, 116]))) (dVar 1)) (gSub (dVar 0) (dC (.str [108, 101, 102, 116]))))
    (sSeq (sRet (dVar 3))
    sNext))) sNext)
    (sSeq (sAsg (dBin vAdd (dBin vIx (dVar 0) (dC (.str [115, 97, 108, 116]))) (dC (.int 1))) (gSub (dVar 0) (dC (.str [115, 97, 108, 116]))))
    (sSeq (sAsg (dBin vMod (dFn vInt (dBin vAdd (dBin vMul (dBin vIx (dVar 0) (dC (.str [115, 101, 101, 100]))) (dC (.int 48271))) (dBin vMul (dBin vIx (dVar 0) (dC (.str [115, 97, 108, 116]))) (dC (.int 69621))))) (dC (.int 2147483647))) (gName 2))
    (sSeq (sAsg (dBin vMod (dFn vInt (dBin vAdd (dBin vAdd (dBin vMul (dVar 2) (dVar 2)) (dBin vMul (dBin vIx (dVar 0) (dC (.str [115, 97, 108, 116]))) (dC (.int 40692)))) (dC (.int 12345)))) (dC (.int 2147483399))) (gName 2))
    (sSeq (sRet (dBin vMod (dFn vInt (dVar 2)) (dVar 1)))
    sNext))))))
noncomputable def d__law_take (Γ : Gam) : DF := fun args h => runDef 4 (b__law_take Γ) args h
noncomputable def b__law_is_integer (Γ : Gam) : Stm := (sSeq (sRet (dAndV (dIsi .int (dVar 0)) (dNotV (dIsi .bool (dVar 0)))))
    sNext)
noncomputable def d__law_is_integer (Γ : Gam) : DF := fun args h => runDef 1 (b__law_is_integer Γ) args h
noncomputable def b__law_same_items (Γ : Gam) : Stm := (sSeq (sIf (dB (dBin vNe (dLen (dVar 0)) (dLen (dVar 1)))) (sSeq (sRet (dC (.bl false)))
    sNext) sNext)
    (sSeq (sFor (iRange1 (dLen (dVar 1))) (gName 2) (sSeq (sIf (dNot (dTru (dCall (Γ 13) (dCons (dBin vIx (dVar 0) (dVar 2)) (dCons (dBin vIx (dVar 1) (dVar 2)) dNil))))) (sSeq (sRet (dC (.bl false)))
    sNext) sNext)
    sNext))
    (sSeq (sRet (dC (.bl true)))
    sNext)))
noncomputable def d__law_same_items (Γ : Gam) : DF := fun args h => runDef 3 (b__law_same_items Γ) args h
noncomputable def b__law_same (Γ : Gam) : Stm := (sSeq (sIf (dB (dBin vIsN (dVar 1) (dC .non))) (sSeq (sRet (dBin vIsN (dVar 0) (dC .non)))
    sNext) sNext)
    (sSeq (sIf (dTru (dIsi .bool (dVar 1))) (sSeq (sRet (dAndV (dIsi .bool (dVar 0)) (dBin vEq (dVar 0) (dVar 1))))
    sNext) sNext)
    (sSeq (sIf (dTru (dIsi .int (dVar 1))) (sSeq (sRet (dAndV (dCall (Γ 11) (dCons (dVar 0) dNil)) (dBin vEq (dVar 0) (dVar 1))))
    sNext) sNext)
    (sSeq (sIf (dTru (dIsi .str (dVar 1))) (sSeq (sRet (dAndV (dIsi .str (dVar 0)) (dBin vEq (dVar 0) (dVar 1))))
    sNext) sNext)
    (sSeq (sIf (dTru (dIsi .tuple (dVar 1))) (sSeq (sRet (dAndV (dIsi .tuple (dVar 0)) (dCall (Γ 12) (dCons (dVar 0) (dCons (dVar 1) dNil)))))
    sNext) sNext)
    (sSeq (sIf (dTru (dIsi .list (dVar 1))) (sSeq (sRet (dAndV (dIsi .list (dVar 0)) (dCall (Γ 12) (dCons (dVar 0) (dCons (dVar 1) dNil)))))
    sNext) sNext)
    (sSeq (sIf (dOr (dNot (dTru (dIsi .dict (dVar 0)))) (dB (dBin vNe (dLen (dVar 0)) (dLen (dVar 1))))) (sSeq (sRet (dC (.bl false)))
    sNext) sNext)
    (sSeq (sFor (iSeq (dVar 1)) (gName 2) (sSeq (sIf (dOr (dB (dBin vNotIn (dVar 2) (dVar 0))) (dNot (dTru (dCall (Γ 13) (dCons (dBin vIx (dVar 0) (dVar 2)) (dCons (dBin vIx (dVar 1) (dVar 2)) dNil)))))) (sSeq (sRet (dC (.bl false)))
    sNext) sNext)
    sNext))
    (sSeq (sFor (iSeq (dVar 0)) (gName 2) (sSeq (sIf (dTru (dIsi .bool (dVar 2))) (sSeq (sRet (dC (.bl false)))
    sNext) sNext)
    sNext))
    (sSeq (sRet (dC (.bl true)))
    sNext))))))))))
noncomputable def d__law_same (Γ : Gam) : DF := fun args h => runDef 3 (b__law_same Γ) args h
noncomputable def b__law_kind (Γ : Gam) : Stm := (sSeq (sAsg (dBin vIx (dTup (dCons (dTup (dCons (dC (.str [97])) dNil)) (dCons (dTup (dCons (dC (.str [97])) (dCons (dC (.str [98])) dNil))) (dCons (dTup (dCons (dC (.str [97])) (dCons (dC (.str [98])) dNil))) (dCons (dTup (dCons (dC (.str [98])) (dCons (dC (.str [100])) (dCons (dC (.str [122])) dNil)))) dNil))))) (dCall (Γ 10) (dCons (dVar 0) (dCons (dC (.int 4)) dNil)))) (gName 1))
    (sSeq (sRet (dTup (dCons (dBin vAdd (dC (.int 1)) (dBin vDiv (dCall (Γ 10) (dCons (dVar 0) (dCons (dC (.int 5)) dNil))) (dC (.int 3)))) (dCons (dVar 1) dNil))))
    sNext))
noncomputable def d__law_kind (Γ : Gam) : DF := fun args h => runDef 2 (b__law_kind Γ) args h
noncomputable def b__law_shape (Γ : Gam) : Stm := (sSeq (sIf (dB (dBin vEq (dVar 2) (dC (.int 0)))) (sSeq (sRet (dTup dNil))
    sNext) sNext)
    (sSeq (sAsg (dBin vIx (dBin vIx (dVar 1) (dC (.int 1))) (dCall (Γ 10) (dCons (dVar 0) (dCons (dLen (dBin vIx (dVar 1) (dC (.int 1)))) dNil)))) (gName 3))
    (sSeq (sIf (dB (dBin vEq (dBin vIx (dVar 1) (dC (.int 0))) (dC (.int 1)))) (sSeq (sRet (dTup (dCons (dVar 3) (dCons (dCall (Γ 15) (dCons (dVar 0) (dCons (dVar 1) (dCons (dBin vSub (dVar 2) (dC (.int 1))) dNil)))) dNil))))
    sNext) sNext)
    (sSeq (sAsg (dCall (Γ 10) (dCons (dVar 0) (dCons (dVar 2) dNil))) (gName 4))
    (sSeq (sRet (dTup (dCons (dVar 3) (dCons (dCall (Γ 15) (dCons (dVar 0) (dCons (dVar 1) (dCons (dVar 4) dNil)))) (dCons (dCall (Γ 15) (dCons (dVar 0) (dCons (dVar 1) (dCons (dBin vSub (dBin vSub (dVar 2) (dC (.int 1))) (dVar 4)) dNil)))) dNil)))))
    sNext)))))
noncomputable def d__law_shape (Γ : Gam) : DF := fun args h => runDef 5 (b__law_shape Γ) args h
noncomputable def b__law_paths (Γ : Gam) : Stm := (sSeq (sIf (dB (dBin vEq (dVar 0) (dTup dNil))) (sSeq (sRet (dLst dNil))
    sNext) sNext)
    (sSeq (sAsg (dLst (dCons (dVar 1) dNil)) (gName 2))
    (sSeq (sFor (iRange1 (dBin vSub (dLen (dVar 0)) (dC (.int 1)))) (gName 3) (sSeq (sAsg (dBin vAdd (dVar 2) (dCall (Γ 16) (dCons (dBin vIx (dVar 0) (dBin vAdd (dVar 3) (dC (.int 1)))) (dCons (dBin vAdd (dVar 1) (dTup (dCons (dVar 3) dNil))) dNil)))) (gName 2))
    sNext))
    (sSeq (sRet (dVar 2))
    sNext))))
noncomputable def d__law_paths (Γ : Gam) : DF := fun args h => runDef 4 (b__law_paths Γ) args h
noncomputable def b__law_part (Γ : Gam) : Stm := (sSeq (sFor (iSeq (dVar 1)) (gName 2) (sSeq (sAsg (dBin vIx (dVar 0) (dBin vAdd (dVar 2) (dC (.int 1)))) (gName 0))
    sNext))
    (sSeq (sRet (dVar 0))
    sNext))
noncomputable def d__law_part (Γ : Gam) : DF := fun args h => runDef 3 (b__law_part Γ) args h
noncomputable def b__law_text (Γ : Gam) : Stm := (sSeq (sIf (dB (dBin vEq (dVar 0) (dTup dNil))) (sSeq (sRet (dC (.str [46])))
    sNext) sNext)
    (sSeq (sIf (dB (dBin vEq (dLen (dVar 0)) (dC (.int 2)))) (sSeq (sRet (dBin vAdd (dBin vIx (dVar 0) (dC (.int 0))) (dCall (Γ 18) (dCons (dBin vIx (dVar 0) (dC (.int 1))) dNil))))
    sNext) sNext)
    (sSeq (sRet (dBin vAdd (dBin vAdd (dBin vAdd (dBin vAdd (dBin vAdd (dBin vIx (dVar 0) (dC (.int 0))) (dC (.str [40]))) (dCall (Γ 18) (dCons (dBin vIx (dVar 0) (dC (.int 1))) dNil))) (dC (.str [44]))) (dCall (Γ 18) (dCons (dBin vIx (dVar 0) (dC (.int 2))) dNil))) (dC (.str [41]))))
    sNext)))
noncomputable def d__law_text (Γ : Gam) : DF := fun args h => runDef 1 (b__law_text Γ) args h
noncomputable def b__law_read (Γ : Gam) : Stm := (sSeq (sTryIs 3 [73, 110, 118, 97, 108, 105, 100, 83, 104, 97, 112, 101] true (sSeq (sAsg (dCall (Γ 8) (dCons (dVar 0) (dCons (dVar 1) dNil))) (gName 2))
    (sSeq (sRet (dIf (dTru (dIsi .str (dVar 2))) (dC (.int 0)) (dVar 2)))
    sNext)) [110, 111, 110, 101] [119, 114, 111, 110, 103])
    sNext)
noncomputable def d__law_read (Γ : Gam) : DF := fun args h => runDef 4 (b__law_read Γ) args h
noncomputable def b__law_try_part (Γ : Gam) : Stm := (sSeq (sTry [([83, 97, 121, 69, 114, 114, 111, 114], false), ([73, 110, 118, 97, 108, 105, 100, 75, 105, 110, 100], false), ([73, 110, 118, 97, 108, 105, 100, 83, 104, 97, 112, 101], false), ([78, 111, 83, 117, 99, 104, 69, 108, 101, 109, 101, 110, 116], true)] (sSeq (sAsg (dCall (Γ 5) (dCons (dVar 0) (dCons (dVar 1) dNil))) (gName 2))
    (sSeq (sRet (dIf (dTru (dIsi .str (dVar 2))) (dC (.int 0)) (dVar 2)))
    sNext)) (sSeq (sRet (dC (.str [110, 111, 110, 101])))
    sNext))
    sNext)
noncomputable def d__law_try_part (Γ : Gam) : DF := fun args h => runDef 3 (b__law_try_part Γ) args h
noncomputable def b__law_try_with (Γ : Gam) : Stm := (sSeq (sTry [([83, 97, 121, 69, 114, 114, 111, 114], false), ([73, 110, 118, 97, 108, 105, 100, 75, 105, 110, 100], false), ([73, 110, 118, 97, 108, 105, 100, 83, 104, 97, 112, 101], false), ([78, 111, 83, 117, 99, 104, 69, 108, 101, 109, 101, 110, 116], true)] (sSeq (sAsg (dCall (Γ 6) (dCons (dVar 0) (dCons (dVar 1) (dCons (dVar 2) dNil)))) (gName 3))
    (sSeq (sRet (dIf (dTru (dIsi .str (dVar 3))) (dC (.int 0)) (dVar 3)))
    sNext)) (sSeq (sRet (dC (.str [110, 111, 110, 101])))
    sNext))
    sNext)
noncomputable def d__law_try_with (Γ : Gam) : DF := fun args h => runDef 4 (b__law_try_with Γ) args h
noncomputable def b__law_with (Γ : Gam) : Stm := (sSeq (sIf (dB (dBin vEq (dVar 1) (dTup dNil))) (sSeq (sRet (dVar 2))
    sNext) sNext)
    (sSeq (sAsg (dBin vIx (dVar 1) (dC (.int 0))) (gName 3))
    (sSeq (sRet (dBin vAdd (dBin vAdd (dCut (dVar 0) oNone (oSome (dBin vAdd (dVar 3) (dC (.int 1))))) (dTup (dCons (dCall (Γ 22) (dCons (dBin vIx (dVar 0) (dBin vAdd (dVar 3) (dC (.int 1)))) (dCons (dCut (dVar 1) (oSome (dC (.int 1))) oNone) (dCons (dVar 2) dNil)))) dNil))) (dCut (dVar 0) (oSome (dBin vAdd (dVar 3) (dC (.int 2)))) oNone)))
    sNext)))
noncomputable def d__law_with (Γ : Gam) : DF := fun args h => runDef 4 (b__law_with Γ) args h
noncomputable def b__law_bent (Γ : Gam) : Stm := (sSeq (sAsg (dCall (Γ 10) (dCons (dVar 0) (dCons (dBin vAdd (dLen (dVar 1)) (dC (.int 1))) dNil))) (gName 2))
    (sSeq (sAsg (dBin vIx (dLst (dCons (dC (.str [])) (dCons (dC (.str [97])) (dCons (dC (.str [46])) (dCons (dC (.str [40])) (dCons (dC (.str [44])) (dCons (dC (.str [41])) (dCons (dC (.str [98])) (dCons (dC (.str [113])) dNil))))))))) (dCall (Γ 10) (dCons (dVar 0) (dCons (dC (.int 8)) dNil)))) (gName 3))
    (sSeq (sRet (dBin vAdd (dBin vAdd (dCut (dVar 1) oNone (oSome (dVar 2))) (dVar 3)) (dCut (dVar 1) (oSome (dBin vAdd (dVar 2) (dCall (Γ 10) (dCons (dVar 0) (dCons (dC (.int 2)) dNil))))) oNone)))
    sNext)))
noncomputable def d__law_bent (Γ : Gam) : DF := fun args h => runDef 4 (b__law_bent Γ) args h
noncomputable def b__law_is (Γ : Gam) : Stm := (sSeq (sIf (dB (dBin vEq (dVar 1) (dTup dNil))) (sSeq (sRet (dC (.bl true)))
    sNext) sNext)
    (sSeq (sIf (dOr (dNot (dTru (dIsi .tuple (dVar 1)))) (dOr (dB (dBin vNe (dLen (dVar 1)) (dBin vAdd (dBin vIx (dVar 0) (dC (.int 0))) (dC (.int 1))))) (dB (dBin vNotIn (dBin vIx (dVar 1) (dC (.int 0))) (dBin vIx (dVar 0) (dC (.int 1))))))) (sSeq (sRet (dC (.bl false)))
    sNext) sNext)
    (sSeq (sRet (dBin vEq (dLc frozen [2] (iSeq (dCut (dVar 1) (oSome (dC (.int 1))) oNone)) (gName 2) (dNot (dTru (dCall (Γ 24) (dCons (dVar 0) (dCons (dVar 2) dNil))))) (dVar 2)) (dLst dNil)))
    sNext)))
noncomputable def d__law_is (Γ : Gam) : DF := fun args h => runDef 3 (b__law_is Γ) args h
noncomputable def b__law_kind_right (Γ : Gam) : Stm := (sSeq (sTry [([83, 97, 121, 69, 114, 114, 111, 114], false), ([73, 110, 118, 97, 108, 105, 100, 75, 105, 110, 100], true), ([73, 110, 118, 97, 108, 105, 100, 83, 104, 97, 112, 101], false), ([78, 111, 83, 117, 99, 104, 69, 108, 101, 109, 101, 110, 116], false)] (sSeq (sExpr (dCall (Γ 0) (dCons (dVar 0) dNil)))
    sNext) (sSeq (sRet (dC (.bl false)))
    sNext))
    (sSeq (sRet (dC (.bl true)))
    sNext))
noncomputable def d__law_kind_right (Γ : Gam) : DF := fun args h => runDef 1 (b__law_kind_right Γ) args h
noncomputable def b_law (Γ : Gam) : Stm := (sSeq (sAsg (dCall (Γ 9) (dCons (dVar 0) dNil)) (gName 1))
    (sSeq (sAsg (dCall (Γ 14) (dCons (dVar 1) dNil)) (gName 2))
    (sSeq (sAsg (dCall (Γ 15) (dCons (dVar 1) (dCons (dVar 2) (dCons (dCall (Γ 10) (dCons (dVar 1) (dCons (dC (.int 13)) dNil))) dNil)))) (gName 3))
    (sSeq (sAsg (dFn vSorted (dCall (Γ 16) (dCons (dVar 3) (dCons (dTup dNil) dNil)))) (gName 4))
    (sSeq (sIf (dNot (dTru (dCall (Γ 13) (dCons (dLst (dCons (dCall (Γ 7) (dCons (dVar 3) dNil)) (dCons (dCall (Γ 3) (dCons (dVar 3) dNil)) (dCons (dCall (Γ 4) (dCons (dVar 3) dNil)) dNil)))) (dCons (dLst (dCons (dCall (Γ 18) (dCons (dVar 3) dNil)) (dCons (dLen (dVar 4)) (dCons (dVar 4) dNil)))) dNil))))) (sSeq (sRet (dC (.bl false)))
    sNext) sNext)
    (sSeq (sIf (dNot (dTru (dCall (Γ 13) (dCons (dCall (Γ 8) (dCons (dVar 2) (dCons (dCall (Γ 18) (dCons (dVar 3) dNil)) dNil))) (dCons (dVar 3) dNil))))) (sSeq (sRet (dC (.bl false)))
    sNext) sNext)
    (sSeq (sAsg (dCall (Γ 23) (dCons (dVar 1) (dCons (dCall (Γ 18) (dCons (dVar 3) dNil)) dNil))) (gName 5))
    (sSeq (sAsg (dCall (Γ 19) (dCons (dVar 2) (dCons (dVar 5) dNil))) (gName 6))
    (sSeq (sIf (dAnd (dB (dBin vNe (dVar 6) (dC (.str [110, 111, 110, 101])))) (dOr (dNot (dTru (dCall (Γ 24) (dCons (dVar 2) (dCons (dVar 6) dNil))))) (dB (dBin vNe (dCall (Γ 18) (dCons (dVar 6) dNil)) (dVar 5))))) (sSeq (sRet (dC (.bl false)))
    sNext) sNext)
    (sSeq (sIf (dAnd (dB (dBin vEq (dVar 6) (dC (.str [110, 111, 110, 101])))) (dB (dBin vEq (dVar 5) (dCall (Γ 18) (dCons (dVar 3) dNil))))) (sSeq (sRet (dC (.bl false)))
    sNext) sNext)
    (sSeq (sAsg (dFn vTuple (dLc frozen [13] (iRange1 (dCall (Γ 10) (dCons (dVar 1) (dCons (dC (.int 4)) dNil)))) (gName 13) dYes (dCall (Γ 10) (dCons (dVar 1) (dCons (dC (.int 2)) dNil))))) (gName 7))
    (sSeq (sIf (dAnd (dB (dBin vNe (dVar 4) (dLst dNil))) (dB (dBin vGt (dCall (Γ 10) (dCons (dVar 1) (dCons (dC (.int 3)) dNil))) (dC (.int 0))))) (sSeq (sAsg (dBin vAdd (dBin vIx (dVar 4) (dCall (Γ 10) (dCons (dVar 1) (dCons (dLen (dVar 4)) dNil)))) (dBin vIx (dTup (dCons (dTup (dCons (dC (.int 0)) dNil)) (dCons (dTup (dCons (dC (.int 1)) dNil)) (dCons (dTup dNil) dNil)))) (dCall (Γ 10) (dCons (dVar 1) (dCons (dC (.int 3)) dNil))))) (gName 7))
    sNext) sNext)
    (sSeq (sAsg (dIf (dB (dBin vIn (dVar 7) (dVar 4))) (dCall (Γ 17) (dCons (dVar 3) (dCons (dVar 7) dNil))) (dC (.str [110, 111, 110, 101]))) (gName 8))
    (sSeq (sIf (dNot (dTru (dCall (Γ 13) (dCons (dCall (Γ 20) (dCons (dVar 3) (dCons (dVar 7) dNil))) (dCons (dVar 8) dNil))))) (sSeq (sRet (dC (.bl false)))
    sNext) sNext)
    (sSeq (sAsg (dCall (Γ 15) (dCons (dVar 1) (dCons (dVar 2) (dCons (dCall (Γ 10) (dCons (dVar 1) (dCons (dC (.int 3)) dNil))) dNil)))) (gName 9))
    (sSeq (sAsg (dOrV (dBin vEq (dVar 7) (dTup dNil)) (dAndV (dBin vIn (dCut (dVar 7) oNone (oSome (dNeg (dC (.int 1))))) (dVar 4)) (dBin vLt (dBin vIx (dVar 7) (dNeg (dC (.int 1)))) (dBin vIx (dVar 2) (dC (.int 0)))))) (gName 10))
    (sSeq (sIf (dNot (dTru (dCall (Γ 13) (dCons (dCall (Γ 21) (dCons (dVar 3) (dCons (dVar 7) (dCons (dVar 9) dNil)))) (dCons (dIf (dTru (dVar 10)) (dCall (Γ 22) (dCons (dVar 3) (dCons (dVar 7) (dCons (dVar 9) dNil)))) (dC (.str [110, 111, 110, 101]))) dNil))))) (sSeq (sRet (dC (.bl false)))
    sNext) sNext)
    (sSeq (sAsg (dBin vIx (dLst (dCons (dVar 3) (dCons (dTup (dCons (dVar 3) dNil)) (dCons (dBin vAdd (dTup (dCons (dC (.str [113])) dNil)) (dCut (dVar 3) (oSome (dC (.int 1))) oNone)) (dCons (dBin vAdd (dVar 3) (dTup (dCons (dTup dNil) dNil))) (dCons (dTup (dCons (dC (.str [97])) (dCons (dVar 3) dNil))) (dCons (dTup (dCons (dC (.str [97])) (dCons (dC (.str [98])) (dCons (dVar 3) dNil)))) dNil))))))) (dCall (Γ 10) (dCons (dVar 1) (dCons (dC (.int 6)) dNil)))) (gName 11))
    (sSeq (sIf (dNot (dTru (dCall (Γ 13) (dCons (dCall (Γ 1) (dCons (dVar 2) (dCons (dVar 11) dNil))) (dCons (dCall (Γ 24) (dCons (dVar 2) (dCons (dVar 11) dNil))) dNil))))) (sSeq (sRet (dC (.bl false)))
    sNext) sNext)
    (sSeq (sAsg (dLstM (dCons (dTup (dCons (dC (.int 3)) (dCons (dTup (dCons (dC (.str [97])) dNil)) dNil))) (dCons (dTup (dCons (dC (.int 0)) (dCons (dTup (dCons (dC (.str [97])) dNil)) dNil))) (dCons (dTup (dCons (dC (.int 1)) (dCons (dTup dNil) dNil))) (dCons (dTup (dCons (dC (.int 2)) (dCons (dTup (dCons (dC (.str [98])) (dCons (dC (.str [97])) dNil))) dNil))) (dCons (dTup (dCons (dC (.int 1)) (dCons (dTup (dCons (dC (.str [97])) (dCons (dC (.str [97])) dNil))) dNil))) (dCons (dTup (dCons (dC (.int 1)) (dCons (dTup (dCons (dC (.str [97, 98])) dNil)) dNil))) (dCons (dTup (dCons (dC (.int 2)) (dCons (dTup (dCons (dC (.str [65])) dNil)) dNil))) dNil)))))))) (gName 12))
    (sSeq (sExpr (dMeth1 isLst vAppend (dVar 12) (dTup (dCons (dC (.int 1)) (dCons (dTup (dCons (dC (.str [97])) (dCons (dC (.str [98])) (dCons (dC (.str [99])) (dCons (dC (.str [100])) dNil))))) dNil)))))
    (sSeq (sRet (dAndV (dCall (Γ 25) (dCons (dVar 2) dNil)) (dNotV (dCall (Γ 25) (dCons (dBin vIx (dVar 12) (dCall (Γ 10) (dCons (dVar 1) (dCons (dC (.int 8)) dNil)))) dNil)))))
    sNext))))))))))))))))))))))
noncomputable def d_law (Γ : Gam) : DF := fun args h => runDef 14 (b_law Γ) args h
noncomputable def b_ShapeReader_init (Γ : Gam) : Stm := (sSeq (sAsg (dVar 1) (gTup 2 (gsCons (gFld [83, 104, 97, 112, 101, 82, 101, 97, 100, 101, 114] [119, 97, 121, 115] (dVar 0)) (gsCons (gFld [83, 104, 97, 112, 101, 82, 101, 97, 100, 101, 114] [108, 97, 98, 101, 108, 115] (dVar 0)) gsNil))))
    (sSeq (sAsg (dVar 2) (gFld [83, 104, 97, 112, 101, 82, 101, 97, 100, 101, 114] [116, 101, 120, 116] (dVar 0)))
    (sSeq (sAsg (dC (.int 0)) (gFld [83, 104, 97, 112, 101, 82, 101, 97, 100, 101, 114] [97, 116] (dVar 0)))
    sNext)))
noncomputable def d_ShapeReader_init (Γ : Gam) : DF := fun args h => runDef 3 (b_ShapeReader_init Γ) args h
noncomputable def b_ShapeReader_sign (Γ : Gam) : Stm := (sSeq (sIf (dB (dBin vGe (dFld [83, 104, 97, 112, 101, 82, 101, 97, 100, 101, 114] [97, 116] (dVar 0)) (dLen (dFld [83, 104, 97, 112, 101, 82, 101, 97, 100, 101, 114] [116, 101, 120, 116] (dVar 0))))) (sSeq (sRaise [73, 110, 118, 97, 108, 105, 100, 83, 104, 97, 112, 101])
    sNext) sNext)
    (sSeq (sFldAug [83, 104, 97, 112, 101, 82, 101, 97, 100, 101, 114] [97, 116] (dVar 0) (dC (.int 1)))
    (sSeq (sRet (dBin vIx (dFld [83, 104, 97, 112, 101, 82, 101, 97, 100, 101, 114] [116, 101, 120, 116] (dVar 0)) (dBin vSub (dFld [83, 104, 97, 112, 101, 82, 101, 97, 100, 101, 114] [97, 116] (dVar 0)) (dC (.int 1)))))
    sNext)))
noncomputable def d_ShapeReader_sign (Γ : Gam) : DF := fun args h => runDef 1 (b_ShapeReader_sign Γ) args h
noncomputable def b_ShapeReader_take (Γ : Gam) : Stm := (sSeq (sIf (dB (dBin vNe (dMth [83, 104, 97, 112, 101, 82, 101, 97, 100, 101, 114] [115, 105, 103, 110] (Γ 28) (dVar 0) dNil) (dVar 1))) (sSeq (sRaise [73, 110, 118, 97, 108, 105, 100, 83, 104, 97, 112, 101])
    sNext) sNext)
    sNext)
noncomputable def d_ShapeReader_take (Γ : Gam) : DF := fun args h => runDef 2 (b_ShapeReader_take Γ) args h
noncomputable def b_ShapeReader_shape (Γ : Gam) : Stm := (sSeq (sAsg (dLstM dNil) (gName 1))
    (sSeq (sWhile (dTru (dC (.bl true))) (sSeq (sAsg (dMth [83, 104, 97, 112, 101, 82, 101, 97, 100, 101, 114] [115, 105, 103, 110] (Γ 28) (dVar 0) dNil) (gName 2))
    (sSeq (sIf (dB (dBin vIn (dVar 2) (dFld [83, 104, 97, 112, 101, 82, 101, 97, 100, 101, 114] [108, 97, 98, 101, 108, 115] (dVar 0)))) (sSeq (sExpr (dMeth1 isLst vAppend (dVar 1) (dLstM (dCons (dVar 2) dNil))))
    (sSeq (sIf (dB (dBin vEq (dFld [83, 104, 97, 112, 101, 82, 101, 97, 100, 101, 114] [119, 97, 121, 115] (dVar 0)) (dC (.int 2)))) (sSeq (sExpr (dMth [83, 104, 97, 112, 101, 82, 101, 97, 100, 101, 114] [116, 97, 107, 101] (Γ 29) (dVar 0) (dCons (dC (.str [40])) dNil)))
    sNext) sNext)
    (sSeq sCont
    sNext))) sNext)
    (sSeq (sIf (dB (dBin vNe (dVar 2) (dC (.str [46])))) (sSeq (sRaise [73, 110, 118, 97, 108, 105, 100, 83, 104, 97, 112, 101])
    sNext) sNext)
    (sSeq (sAsg (dMth [83, 104, 97, 112, 101, 82, 101, 97, 100, 101, 114] [102, 105, 110, 105, 115, 104] (Γ 31) (dVar 0) (dCons (dVar 1) (dCons (dTup dNil) dNil))) (gName 3))
    (sSeq (sIf (dNot (dTru (dVar 1))) (sSeq (sRet (dVar 3))
    sNext) sNext)
    sNext))))))
    sNext))
noncomputable def d_ShapeReader_shape (Γ : Gam) : DF := fun args h => runDef 4 (b_ShapeReader_shape Γ) args h
noncomputable def b_ShapeReader_finish (Γ : Gam) : Stm := (sSeq (sWhile (dTru (dVar 1)) (sSeq (sExpr (dMeth1 isLst vAppend (dBin vIx (dVar 1) (dNeg (dC (.int 1)))) (dVar 2)))
    (sSeq (sIf (dB (dBin vLe (dLen (dBin vIx (dVar 1) (dNeg (dC (.int 1))))) (dFld [83, 104, 97, 112, 101, 82, 101, 97, 100, 101, 114] [119, 97, 121, 115] (dVar 0)))) (sSeq (sExpr (dMth [83, 104, 97, 112, 101, 82, 101, 97, 100, 101, 114] [116, 97, 107, 101] (Γ 29) (dVar 0) (dCons (dC (.str [44])) dNil)))
    (sSeq (sRet (dTup dNil))
    sNext)) sNext)
    (sSeq (sIf (dB (dBin vEq (dFld [83, 104, 97, 112, 101, 82, 101, 97, 100, 101, 114] [119, 97, 121, 115] (dVar 0)) (dC (.int 2)))) (sSeq (sExpr (dMth [83, 104, 97, 112, 101, 82, 101, 97, 100, 101, 114] [116, 97, 107, 101] (Γ 29) (dVar 0) (dCons (dC (.str [41])) dNil)))
    sNext) sNext)
    (sSeq (sAsg (dFn vTuple (dMeth0 isLst vPop (dVar 1))) (gName 2))
    sNext)))))
    (sSeq (sRet (dVar 2))
    sNext))
noncomputable def d_ShapeReader_finish (Γ : Gam) : DF := fun args h => runDef 3 (b_ShapeReader_finish Γ) args h
noncomputable def D (Γ : Gam) : Gam := fun j => match j with
  | 0 => d_check_kind Γ
  | 1 => d_is_shape Γ
  | 2 => d_all_elements Γ
  | 3 => d_size Γ
  | 4 => d_paths Γ
  | 5 => d_part Γ
  | 6 => d_with_part Γ
  | 7 => d_write_shape Γ
  | 8 => d_read_shape Γ
  | 9 => d__law_tape Γ
  | 10 => d__law_take Γ
  | 11 => d__law_is_integer Γ
  | 12 => d__law_same_items Γ
  | 13 => d__law_same Γ
  | 14 => d__law_kind Γ
  | 15 => d__law_shape Γ
  | 16 => d__law_paths Γ
  | 17 => d__law_part Γ
  | 18 => d__law_text Γ
  | 19 => d__law_read Γ
  | 20 => d__law_try_part Γ
  | 21 => d__law_try_with Γ
  | 22 => d__law_with Γ
  | 23 => d__law_bent Γ
  | 24 => d__law_is Γ
  | 25 => d__law_kind_right Γ
  | 26 => d_law Γ
  | 27 => d_ShapeReader_init Γ
  | 28 => d_ShapeReader_sign Γ
  | 29 => d_ShapeReader_take Γ
  | 30 => d_ShapeReader_shape Γ
  | 31 => d_ShapeReader_finish Γ
  | _ => fun _ _ => .fail
def sig : List (Str × List Str) := [("check_kind", ["kind"]), ("is_shape", ["kind", "value"]), ("all_elements", ["shape"]), ("size", ["shape"]), ("paths", ["shape"]), ("part", ["shape", "path"]), ("with_part", ["shape", "path", "new"]), ("write_shape", ["shape"]), ("read_shape", ["kind", "text"]), ("_law_tape", ["script"]), ("_law_take", ["tape", "many"]), ("_law_is_integer", ["actual"]), ("_law_same_items", ["actual", "expected"]), ("_law_same", ["actual", "expected"]), ("_law_kind", ["tape"]), ("_law_shape", ["tape", "kind", "count"]), ("_law_paths", ["shape", "path"]), ("_law_part", ["shape", "path"]), ("_law_text", ["shape"]), ("_law_read", ["kind", "text"]), ("_law_try_part", ["shape", "path"]), ("_law_try_with", ["shape", "path", "new"]), ("_law_with", ["shape", "path", "new"]), ("_law_bent", ["tape", "text"]), ("_law_is", ["kind", "value"]), ("_law_kind_right", ["kind"]), ("law", ["script"])]
def msig : List (Tx × Tx × List Str) := [([83, 104, 97, 112, 101, 82, 101, 97, 100, 101, 114], [95, 95, 105, 110, 105, 116, 95, 95], ["self", "kind", "text"]), ([83, 104, 97, 112, 101, 82, 101, 97, 100, 101, 114], [115, 105, 103, 110], ["self"]), ([83, 104, 97, 112, 101, 82, 101, 97, 100, 101, 114], [116, 97, 107, 101], ["self", "expected"]), ([83, 104, 97, 112, 101, 82, 101, 97, 100, 101, 114], [115, 104, 97, 112, 101], ["self"]), ([83, 104, 97, 112, 101, 82, 101, 97, 100, 101, 114], [102, 105, 110, 105, 115, 104], ["self", "above", "done"])]
structure Fc (K : PySem.W.Frag) (mg : Str → Option Value) : Prop where
  f_abs : mg "abs" = none
  f_all : mg "all" = none
  f_bool : mg "bool" = none
  f_dict : mg "dict" = none
  f_enumerate : mg "enumerate" = none
  f_int : mg "int" = none
  f_isinstance : mg "isinstance" = none
  f_len : mg "len" = none
  f_list : mg "list" = none
  f_range : mg "range" = none
  f_set : mg "set" = none
  f_sorted : mg "sorted" = none
  f_str : mg "str" = none
  f_tuple : mg "tuple" = none
  c_LETTERS : ∃ t, mg "LETTERS" = some (.str (sOf [97, 98, 99, 100, 101, 102, 103, 104, 105, 106, 107, 108, 109, 110, 111, 112, 113, 114, 115, 116, 117, 118, 119, 120, 121, 122]) t)
  e_SayError : PySem.W.excIn K (clsA K [83, 97, 121, 69, 114, 114, 111, 114]) He.veBase "ValueError.__new__" = true ∧ PySem.W.keepIn K (.ref (clsA K [83, 97, 121, 69, 114, 114, 111, 114])) = true ∧ PySem.W.subIn K (.ref (clsA K [83, 97, 121, 69, 114, 114, 111, 114])) (.type "BaseException") = some true ∧ PySem.W.typeIn K (.ref (clsA K [83, 97, 121, 69, 114, 114, 111, 114])) = some (.type "type") ∧ mg "SayError" = some (.ref (clsA K [83, 97, 121, 69, 114, 114, 111, 114]))
  e_InvalidKind : PySem.W.excIn K (clsA K [73, 110, 118, 97, 108, 105, 100, 75, 105, 110, 100]) He.veBase "ValueError.__new__" = true ∧ PySem.W.keepIn K (.ref (clsA K [73, 110, 118, 97, 108, 105, 100, 75, 105, 110, 100])) = true ∧ PySem.W.subIn K (.ref (clsA K [73, 110, 118, 97, 108, 105, 100, 75, 105, 110, 100])) (.type "BaseException") = some true ∧ PySem.W.typeIn K (.ref (clsA K [73, 110, 118, 97, 108, 105, 100, 75, 105, 110, 100])) = some (.type "type") ∧ mg "InvalidKind" = some (.ref (clsA K [73, 110, 118, 97, 108, 105, 100, 75, 105, 110, 100]))
  e_InvalidShape : PySem.W.excIn K (clsA K [73, 110, 118, 97, 108, 105, 100, 83, 104, 97, 112, 101]) He.veBase "ValueError.__new__" = true ∧ PySem.W.keepIn K (.ref (clsA K [73, 110, 118, 97, 108, 105, 100, 83, 104, 97, 112, 101])) = true ∧ PySem.W.subIn K (.ref (clsA K [73, 110, 118, 97, 108, 105, 100, 83, 104, 97, 112, 101])) (.type "BaseException") = some true ∧ PySem.W.typeIn K (.ref (clsA K [73, 110, 118, 97, 108, 105, 100, 83, 104, 97, 112, 101])) = some (.type "type") ∧ mg "InvalidShape" = some (.ref (clsA K [73, 110, 118, 97, 108, 105, 100, 83, 104, 97, 112, 101]))
  e_NoSuchElement : PySem.W.excIn K (clsA K [78, 111, 83, 117, 99, 104, 69, 108, 101, 109, 101, 110, 116]) He.veBase "ValueError.__new__" = true ∧ PySem.W.keepIn K (.ref (clsA K [78, 111, 83, 117, 99, 104, 69, 108, 101, 109, 101, 110, 116])) = true ∧ PySem.W.subIn K (.ref (clsA K [78, 111, 83, 117, 99, 104, 69, 108, 101, 109, 101, 110, 116])) (.type "BaseException") = some true ∧ PySem.W.typeIn K (.ref (clsA K [78, 111, 83, 117, 99, 104, 69, 108, 101, 109, 101, 110, 116])) = some (.type "type") ∧ mg "NoSuchElement" = some (.ref (clsA K [78, 111, 83, 117, 99, 104, 69, 108, 101, 109, 101, 110, 116]))
  m_InvalidKind : ∀ p ∈ ([([83, 97, 121, 69, 114, 114, 111, 114], false), ([73, 110, 118, 97, 108, 105, 100, 75, 105, 110, 100], true), ([73, 110, 118, 97, 108, 105, 100, 83, 104, 97, 112, 101], false), ([78, 111, 83, 117, 99, 104, 69, 108, 101, 109, 101, 110, 116], false)] : List (List Nat × Bool)), PySem.W.exmOne K (.ref (clsA K p.1)) (.ref (clsA K [73, 110, 118, 97, 108, 105, 100, 75, 105, 110, 100])) = some p.2
  m_InvalidShape : ∀ p ∈ ([([83, 97, 121, 69, 114, 114, 111, 114], false), ([73, 110, 118, 97, 108, 105, 100, 75, 105, 110, 100], false), ([73, 110, 118, 97, 108, 105, 100, 83, 104, 97, 112, 101], true), ([78, 111, 83, 117, 99, 104, 69, 108, 101, 109, 101, 110, 116], false)] : List (List Nat × Bool)), PySem.W.exmOne K (.ref (clsA K p.1)) (.ref (clsA K [73, 110, 118, 97, 108, 105, 100, 83, 104, 97, 112, 101])) = some p.2
  m_NoSuchElement : ∀ p ∈ ([([83, 97, 121, 69, 114, 114, 111, 114], false), ([73, 110, 118, 97, 108, 105, 100, 75, 105, 110, 100], false), ([73, 110, 118, 97, 108, 105, 100, 83, 104, 97, 112, 101], false), ([78, 111, 83, 117, 99, 104, 69, 108, 101, 109, 101, 110, 116], true)] : List (List Nat × Bool)), PySem.W.exmOne K (.ref (clsA K p.1)) (.ref (clsA K [78, 111, 83, 117, 99, 104, 69, 108, 101, 109, 101, 110, 116])) = some p.2
  x_InvalidShape : ExcC K (clsA K [73, 110, 118, 97, 108, 105, 100, 83, 104, 97, 112, 101]) ∧ PySem.W.kitOne K (.ref (clsA K [73, 110, 118, 97, 108, 105, 100, 83, 104, 97, 112, 101])) (.ref (clsA K [83, 97, 121, 69, 114, 114, 111, 114])) = some true ∧ mg "SayError" = some (.ref (clsA K [83, 97, 121, 69, 114, 114, 111, 114]))
  k_ShapeReader : Cls K (clsA K [83, 104, 97, 112, 101, 82, 101, 97, 100, 101, 114])
  mk_ShapeReader : Mk K (clsA K [83, 104, 97, 112, 101, 82, 101, 97, 100, 101, 114]) (He.ma K (clsA K [83, 104, 97, 112, 101, 82, 101, 97, 100, 101, 114]) (sOf [95, 95, 105, 110, 105, 116, 95, 95]))
  g_ShapeReader : mg "ShapeReader" = some (.ref (clsA K [83, 104, 97, 112, 101, 82, 101, 97, 100, 101, 114]))
  n_ShapeReader_at : NoAttr K (clsA K [83, 104, 97, 112, 101, 82, 101, 97, 100, 101, 114]) (sOf [97, 116])
  n_ShapeReader_labels : NoAttr K (clsA K [83, 104, 97, 112, 101, 82, 101, 97, 100, 101, 114]) (sOf [108, 97, 98, 101, 108, 115])
  n_ShapeReader_text : NoAttr K (clsA K [83, 104, 97, 112, 101, 82, 101, 97, 100, 101, 114]) (sOf [116, 101, 120, 116])
  n_ShapeReader_ways : NoAttr K (clsA K [83, 104, 97, 112, 101, 82, 101, 97, 100, 101, 114]) (sOf [119, 97, 121, 115])
abbrev FnP (K : PySem.W.Frag) (x : Str) (i : Nat) (fd : FuncData) : Prop := FunD K x x (defArgs (top i)) (defBody (top i)) (defScope (top i)) [] [] (He.ga K x) fd
section
variable {P : Program} {w : World} {K : PySem.W.Frag} {mg : Str → Option Value} {base : Heap} {k : Nat} {Γ : Gam}
theorem s_check_kind : FnScope ["kind", "ways", "labels", "label"] ["kind"] (defScope (top 7)) := ⟨rfl, rfl, rfl, by decide +kernel, rfl, by decide +kernel, by decide +kernel⟩
theorem w_check_kind (F : AllK P w K mg base sig k Γ) (M : AllM P w K mg base msig 27 k Γ) (fc : Fc K mg) {fa : Addr} {cdv : Value} {A : Around} {outer : List PySem.Env} {s : Shared} {H : Hp} {E : XK} (hr : Room (k + 1) (A.deeper (envOfC "check_kind" (defScope (top 7)) s.heap.objs.size fa cdv)))
    (hp : PassesOwn (model P w) (A.deeper (envOfC "check_kind" (defScope (top 7)) s.heap.objs.size fa cdv)) (envOfC "check_kind" (defScope (top 7)) s.heap.objs.size fa cdv) (cxOf (L2.CX P w) P w K mg base ["kind", "ways", "labels", "label"] "check_kind" (defScope (top 7)) fa cdv A outer s H E).xe)
    (tk : Takes (cxOf (L2.CX P w) P w K mg base ["kind", "ways", "labels", "label"] "check_kind" (defScope (top 7)) fa cdv A outer s H E) (WD E)) :
    GSs (cxOf (L2.CX P w) P w K mg base ["kind", "ways", "labels", "label"] "check_kind" (defScope (top 7)) fa cdv A outer s H E) (WD E) (defBody (top 7)) (b_check_kind Γ) := by
  have nd : (["kind", "ways", "labels", "label"] : List Str).Nodup := s_check_kind.nd
  have hu : (cxOf (L2.CX P w) P w K mg base ["kind", "ways", "labels", "label"] "check_kind" (defScope (top 7)) fa cdv A outer s H E).A.units + 200 < cLine := by
    have := hr.un
    show (A.deeper (envOfC "check_kind" (defScope (top 7)) s.heap.objs.size fa cdv)).units + 200 < cLine
    omega
  have hu1 : (cxOf (L2.CX P w) P w K mg base ["kind", "ways", "labels", "label"] "check_kind" (defScope (top 7)) fa cdv A outer s H E).A.units + 1 < cLine := by omega
  exact (gs_cons (gs_asg (ge_var 0) (gg_tup rfl (ggs_cons (gg_name 1 nd) (ggs_cons (gg_name 2 nd) ggs_nil))))
    (gs_cons (gs_if (GW.pt (gw_or (gt_cmp (og_notIn hu) (ge_var 1) (ge_tup (ga_cons ge_int (ga_cons ge_int ga_nil)))) (gw_or (gt_not (gt_chain og_le og_le ge_int (ge_len (ge_var 2) fc.f_len) ge_int)) (gw_or1 (gt_cmp (og_ne hu) (ge_t1 c1_list (ge_var 2) fc.f_list) (ge_sortSet rfl hu (ge_var 2) fc.f_sorted fc.f_set)))))) (gs_cons (gs_raise [73, 110, 118, 97, 108, 105, 100, 75, 105, 110, 100] rfl tk fc.e_InvalidKind.1 fc.e_InvalidKind.2.2.2.2 fc.e_InvalidKind.2.1 fc.e_InvalidKind.2.2.1 fc.e_InvalidKind.2.2.2.1)
    gs_nil) gs_nil)
    (gs_cons (gs_if (gt_not (gt_tru (ge_b1 (c1_all rfl) (ge_lc fin_frozen [("label", 3)] rfl nd (gi_seq (ge_var 2)) (fun _ _ _ _ _ => (gc_name 3 nd)) (fun _ _ _ _ _ => gts_nil) (fun _ _ _ _ _ => (ge_and (ge_cmp (og_eq hu) (ge_len (ge_var 3) fc.f_len) ge_int) (ge_one (ge_cmp (og_in hu) (ge_var 3) (ge_tops [97, 98, 99, 100, 101, 102, 103, 104, 105, 106, 107, 108, 109, 110, 111, 112, 113, 114, 115, 116, 117, 118, 119, 120, 121, 122] fc.c_LETTERS)))))) fc.f_all))) (gs_cons (gs_raise [73, 110, 118, 97, 108, 105, 100, 75, 105, 110, 100] rfl tk fc.e_InvalidKind.1 fc.e_InvalidKind.2.2.2.2 fc.e_InvalidKind.2.1 fc.e_InvalidKind.2.2.1 fc.e_InvalidKind.2.2.2.1)
    gs_nil) gs_nil)
    gs_nil)))
theorem k_check_kind {fd : FuncData} (F : AllK P w K mg base sig k Γ) (M : AllM P w K mg base msig 27 k Γ) (fc : Fc K mg) (U : FnP K "check_kind" 7 fd) : FnOk P w K mg base (L2.CX P w) (k + 2) (He.ga K "check_kind") fd ["kind"] (spG K (d_check_kind Γ) 1) :=
  fn_G (k := k + 1) U s_check_kind (fun args h _ => .inl rfl) fun cdv A outer s H E hr hp tk => w_check_kind F M fc hr hp tk
theorem s_is_shape : FnScope ["kind", "value", "waiting", "ways", "labels", "current"] ["kind", "value"] (defScope (top 8)) := ⟨rfl, rfl, rfl, by decide +kernel, rfl, by decide +kernel, by decide +kernel⟩
theorem w_is_shape (F : AllK P w K mg base sig k Γ) (M : AllM P w K mg base msig 27 k Γ) (fc : Fc K mg) {fa : Addr} {cdv : Value} {A : Around} {outer : List PySem.Env} {s : Shared} {H : Hp} {E : XK} (hr : Room (k + 1) (A.deeper (envOfC "is_shape" (defScope (top 8)) s.heap.objs.size fa cdv)))
    (hp : PassesOwn (model P w) (A.deeper (envOfC "is_shape" (defScope (top 8)) s.heap.objs.size fa cdv)) (envOfC "is_shape" (defScope (top 8)) s.heap.objs.size fa cdv) (cxOf (L2.CX P w) P w K mg base ["kind", "value", "waiting", "ways", "labels", "current"] "is_shape" (defScope (top 8)) fa cdv A outer s H E).xe)
    (tk : Takes (cxOf (L2.CX P w) P w K mg base ["kind", "value", "waiting", "ways", "labels", "current"] "is_shape" (defScope (top 8)) fa cdv A outer s H E) (WD E)) :
    GSs (cxOf (L2.CX P w) P w K mg base ["kind", "value", "waiting", "ways", "labels", "current"] "is_shape" (defScope (top 8)) fa cdv A outer s H E) (WD E) (defBody (top 8)) (b_is_shape Γ) := by
  have nd : (["kind", "value", "waiting", "ways", "labels", "current"] : List Str).Nodup := s_is_shape.nd
  have hu : (cxOf (L2.CX P w) P w K mg base ["kind", "value", "waiting", "ways", "labels", "current"] "is_shape" (defScope (top 8)) fa cdv A outer s H E).A.units + 200 < cLine := by
    have := hr.un
    show (A.deeper (envOfC "is_shape" (defScope (top 8)) s.heap.objs.size fa cdv)).units + 200 < cLine
    omega
  have hu1 : (cxOf (L2.CX P w) P w K mg base ["kind", "value", "waiting", "ways", "labels", "current"] "is_shape" (defScope (top 8)) fa cdv A outer s H E).A.units + 1 < cLine := by omega
  exact (gs_cons (gs_expr (ge_fn (F 0 _ _ rfl) (hr.mono (Nat.le_succ _)) tk (gan_cons (ge_var 0) gan_nil)))
    (gs_cons (gs_asg (ge_var 0) (gg_tup rfl (ggs_cons (gg_name 3 nd) (ggs_cons (gg_name 4 nd) ggs_nil))))
    (gs_cons (gs_set 2 (ge_lstM (ga_cons (ge_var 1) ga_nil)) nd)
    (gs_cons (gs_while hp (gt_tru (ge_var 2)) (gs_cons (gs_set 5 (ge_pop (ge_var 2)) nd)
    (gs_cons (gs_if (gt_not (gt_tru (ge_isi .tuple (ge_var 5) fc.f_isinstance fc.f_tuple))) (gs_cons (gs_ret ge_bl)
    gs_nil) gs_nil)
    (gs_cons (gs_if (gt_cmp (og_eq hu) (ge_len (ge_var 5) fc.f_len) ge_int) (gs_cons gs_continue
    gs_nil) gs_nil)
    (gs_cons (gs_if (GW.pt (gw_or (gt_cmp (og_ne hu) (ge_len (ge_var 5) fc.f_len) (ge_bin og_add (ge_var 3) ge_int)) (gw_or (gt_not (gt_tru (ge_isi .str (ge_ix hu1 (ge_var 5) ge_int) fc.f_isinstance fc.f_str))) (gw_or1 (gt_cmp (og_notIn hu) (ge_ix hu1 (ge_var 5) ge_int) (ge_var 4)))))) (gs_cons (gs_ret ge_bl)
    gs_nil) gs_nil)
    (gs_cons (gs_expr (ge_extend (ge_var 2) (ge_t1 c1_list (ge_cut (ge_var 5) (go_some ge_int) go_none) fc.f_list)))
    gs_nil))))))
    (gs_cons (gs_ret ge_bl)
    gs_nil)))))
theorem k_is_shape {fd : FuncData} (F : AllK P w K mg base sig k Γ) (M : AllM P w K mg base msig 27 k Γ) (fc : Fc K mg) (U : FnP K "is_shape" 8 fd) : FnOk P w K mg base (L2.CX P w) (k + 2) (He.ga K "is_shape") fd ["kind", "value"] (spG K (d_is_shape Γ) 2) :=
  fn_G (k := k + 1) U s_is_shape (fun args h _ => .inr rfl) fun cdv A outer s H E hr hp tk => w_is_shape F M fc hr hp tk
theorem s_all_elements : FnScope ["shape", "result", "waiting", "path", "current", "way", "child"] ["shape"] (defScope (top 9)) := ⟨rfl, rfl, rfl, by decide +kernel, rfl, by decide +kernel, by decide +kernel⟩
theorem w_all_elements (F : AllK P w K mg base sig k Γ) (M : AllM P w K mg base msig 27 k Γ) (fc : Fc K mg) {fa : Addr} {cdv : Value} {A : Around} {outer : List PySem.Env} {s : Shared} {H : Hp} {E : XK} (hr : Room (k + 1) (A.deeper (envOfC "all_elements" (defScope (top 9)) s.heap.objs.size fa cdv)))
    (hp : PassesOwn (model P w) (A.deeper (envOfC "all_elements" (defScope (top 9)) s.heap.objs.size fa cdv)) (envOfC "all_elements" (defScope (top 9)) s.heap.objs.size fa cdv) (cxOf (L2.CX P w) P w K mg base ["shape", "result", "waiting", "path", "current", "way", "child"] "all_elements" (defScope (top 9)) fa cdv A outer s H E).xe)
    (tk : Takes (cxOf (L2.CX P w) P w K mg base ["shape", "result", "waiting", "path", "current", "way", "child"] "all_elements" (defScope (top 9)) fa cdv A outer s H E) (WD E)) :
    GSs (cxOf (L2.CX P w) P w K mg base ["shape", "result", "waiting", "path", "current", "way", "child"] "all_elements" (defScope (top 9)) fa cdv A outer s H E) (WD E) (defBody (top 9)) (b_all_elements Γ) := by
  have nd : (["shape", "result", "waiting", "path", "current", "way", "child"] : List Str).Nodup := s_all_elements.nd
  have hu : (cxOf (L2.CX P w) P w K mg base ["shape", "result", "waiting", "path", "current", "way", "child"] "all_elements" (defScope (top 9)) fa cdv A outer s H E).A.units + 200 < cLine := by
    have := hr.un
    show (A.deeper (envOfC "all_elements" (defScope (top 9)) s.heap.objs.size fa cdv)).units + 200 < cLine
    omega
  have hu1 : (cxOf (L2.CX P w) P w K mg base ["shape", "result", "waiting", "path", "current", "way", "child"] "all_elements" (defScope (top 9)) fa cdv A outer s H E).A.units + 1 < cLine := by omega
  exact (gs_cons (gs_set 1 (ge_lstM ga_nil) nd)
    (gs_cons (gs_set 2 (ge_lstM (ga_cons (ge_tup (ga_cons (ge_tup ga_nil) (ga_cons (ge_var 0) ga_nil))) ga_nil)) nd)
    (gs_cons (gs_while hp (gt_tru (ge_var 2)) (gs_cons (gs_asg (ge_pop (ge_var 2)) (gg_tup rfl (ggs_cons (gg_name 3 nd) (ggs_cons (gg_name 4 nd) ggs_nil))))
    (gs_cons (gs_if (gt_tru (ge_var 4)) (gs_cons (gs_expr (ge_append (ge_var 1) (ge_tup (ga_cons (ge_var 3) (ga_cons (ge_var 4) ga_nil)))))
    (gs_cons (gs_for hp rfl (gi_enum (ge_cut (ge_var 4) (go_some ge_int) go_none) fc.f_enumerate) (gg_tup rfl (ggs_cons (gg_name 5 nd) (ggs_cons (gg_name 6 nd) ggs_nil))) (gs_cons (gs_expr (ge_append (ge_var 2) (ge_tup (ga_cons (ge_bin og_add (ge_var 3) (ge_tup (ga_cons (ge_var 5) ga_nil))) (ga_cons (ge_var 6) ga_nil)))))
    gs_nil))
    gs_nil)) gs_nil)
    gs_nil)))
    (gs_cons (gs_ret (ge_var 1))
    gs_nil))))
theorem k_all_elements {fd : FuncData} (F : AllK P w K mg base sig k Γ) (M : AllM P w K mg base msig 27 k Γ) (fc : Fc K mg) (U : FnP K "all_elements" 9 fd) : FnOk P w K mg base (L2.CX P w) (k + 2) (He.ga K "all_elements") fd ["shape"] (spG K (d_all_elements Γ) 1) :=
  fn_G (k := k + 1) U s_all_elements (fun args h _ => .inr rfl) fun cdv A outer s H E hr hp tk => w_all_elements F M fc hr hp tk
theorem s_size : FnScope ["shape"] ["shape"] (defScope (top 10)) := ⟨rfl, rfl, rfl, by decide +kernel, rfl, by decide +kernel, by decide +kernel⟩
theorem w_size (F : AllK P w K mg base sig k Γ) (M : AllM P w K mg base msig 27 k Γ) (fc : Fc K mg) {fa : Addr} {cdv : Value} {A : Around} {outer : List PySem.Env} {s : Shared} {H : Hp} {E : XK} (hr : Room (k + 1) (A.deeper (envOfC "size" (defScope (top 10)) s.heap.objs.size fa cdv)))
    (hp : PassesOwn (model P w) (A.deeper (envOfC "size" (defScope (top 10)) s.heap.objs.size fa cdv)) (envOfC "size" (defScope (top 10)) s.heap.objs.size fa cdv) (cxOf (L2.CX P w) P w K mg base ["shape"] "size" (defScope (top 10)) fa cdv A outer s H E).xe)
    (tk : Takes (cxOf (L2.CX P w) P w K mg base ["shape"] "size" (defScope (top 10)) fa cdv A outer s H E) (WD E)) :
    GSs (cxOf (L2.CX P w) P w K mg base ["shape"] "size" (defScope (top 10)) fa cdv A outer s H E) (WD E) (defBody (top 10)) (b_size Γ) := by
  have nd : (["shape"] : List Str).Nodup := s_size.nd
  have hu : (cxOf (L2.CX P w) P w K mg base ["shape"] "size" (defScope (top 10)) fa cdv A outer s H E).A.units + 200 < cLine := by
    have := hr.un
    show (A.deeper (envOfC "size" (defScope (top 10)) s.heap.objs.size fa cdv)).units + 200 < cLine
    omega
  have hu1 : (cxOf (L2.CX P w) P w K mg base ["shape"] "size" (defScope (top 10)) fa cdv A outer s H E).A.units + 1 < cLine := by omega
  exact (gs_cons (gs_ret (ge_len (ge_fn (F 2 _ _ rfl) (hr.mono (Nat.le_succ _)) tk (gan_cons (ge_var 0) gan_nil)) fc.f_len))
    gs_nil)
theorem k_size {fd : FuncData} (F : AllK P w K mg base sig k Γ) (M : AllM P w K mg base msig 27 k Γ) (fc : Fc K mg) (U : FnP K "size" 10 fd) : FnOk P w K mg base (L2.CX P w) (k + 2) (He.ga K "size") fd ["shape"] (spG K (d_size Γ) 1) :=
  fn_G (k := k + 1) U s_size (fun args h _ => .inl rfl) fun cdv A outer s H E hr hp tk => w_size F M fc hr hp tk
theorem s_paths : FnScope ["shape", "path", "_"] ["shape"] (defScope (top 11)) := ⟨rfl, rfl, rfl, by decide +kernel, rfl, by decide +kernel, by decide +kernel⟩
theorem w_paths (F : AllK P w K mg base sig k Γ) (M : AllM P w K mg base msig 27 k Γ) (fc : Fc K mg) {fa : Addr} {cdv : Value} {A : Around} {outer : List PySem.Env} {s : Shared} {H : Hp} {E : XK} (hr : Room (k + 1) (A.deeper (envOfC "paths" (defScope (top 11)) s.heap.objs.size fa cdv)))
    (hp : PassesOwn (model P w) (A.deeper (envOfC "paths" (defScope (top 11)) s.heap.objs.size fa cdv)) (envOfC "paths" (defScope (top 11)) s.heap.objs.size fa cdv) (cxOf (L2.CX P w) P w K mg base ["shape", "path", "_"] "paths" (defScope (top 11)) fa cdv A outer s H E).xe)
    (tk : Takes (cxOf (L2.CX P w) P w K mg base ["shape", "path", "_"] "paths" (defScope (top 11)) fa cdv A outer s H E) (WD E)) :
    GSs (cxOf (L2.CX P w) P w K mg base ["shape", "path", "_"] "paths" (defScope (top 11)) fa cdv A outer s H E) (WD E) (defBody (top 11)) (b_paths Γ) := by
  have nd : (["shape", "path", "_"] : List Str).Nodup := s_paths.nd
  have hu : (cxOf (L2.CX P w) P w K mg base ["shape", "path", "_"] "paths" (defScope (top 11)) fa cdv A outer s H E).A.units + 200 < cLine := by
    have := hr.un
    show (A.deeper (envOfC "paths" (defScope (top 11)) s.heap.objs.size fa cdv)).units + 200 < cLine
    omega
  have hu1 : (cxOf (L2.CX P w) P w K mg base ["shape", "path", "_"] "paths" (defScope (top 11)) fa cdv A outer s H E).A.units + 1 < cLine := by omega
  exact (gs_cons (gs_ret (ge_b1 (c1_sorted hu) (ge_lc fin_frozen [("path", 1), ("_", 2)] rfl nd (gi_seq (ge_fn (F 2 _ _ rfl) (hr.mono (Nat.le_succ _)) tk (gan_cons (ge_var 0) gan_nil))) (fun _ _ _ _ _ => (gc_tup rfl (gcs_cons (gc_name 1 nd) (gcs_cons (gc_name 2 nd) gcs_nil)))) (fun _ _ _ _ _ => gts_nil) (fun _ _ _ _ _ => (ge_var 1))) fc.f_sorted))
    gs_nil)
theorem k_paths {fd : FuncData} (F : AllK P w K mg base sig k Γ) (M : AllM P w K mg base msig 27 k Γ) (fc : Fc K mg) (U : FnP K "paths" 11 fd) : FnOk P w K mg base (L2.CX P w) (k + 2) (He.ga K "paths") fd ["shape"] (spG K (d_paths Γ) 1) :=
  fn_G (k := k + 1) U s_paths (fun args h _ => .inl rfl) fun cdv A outer s H E hr hp tk => w_paths F M fc hr hp tk
theorem s_part : FnScope ["shape", "path", "current", "way"] ["shape", "path"] (defScope (top 12)) := ⟨rfl, rfl, rfl, by decide +kernel, rfl, by decide +kernel, by decide +kernel⟩
theorem w_part (F : AllK P w K mg base sig k Γ) (M : AllM P w K mg base msig 27 k Γ) (fc : Fc K mg) {fa : Addr} {cdv : Value} {A : Around} {outer : List PySem.Env} {s : Shared} {H : Hp} {E : XK} (hr : Room (k + 1) (A.deeper (envOfC "part" (defScope (top 12)) s.heap.objs.size fa cdv)))
    (hp : PassesOwn (model P w) (A.deeper (envOfC "part" (defScope (top 12)) s.heap.objs.size fa cdv)) (envOfC "part" (defScope (top 12)) s.heap.objs.size fa cdv) (cxOf (L2.CX P w) P w K mg base ["shape", "path", "current", "way"] "part" (defScope (top 12)) fa cdv A outer s H E).xe)
    (tk : Takes (cxOf (L2.CX P w) P w K mg base ["shape", "path", "current", "way"] "part" (defScope (top 12)) fa cdv A outer s H E) (WD E)) :
    GSs (cxOf (L2.CX P w) P w K mg base ["shape", "path", "current", "way"] "part" (defScope (top 12)) fa cdv A outer s H E) (WD E) (defBody (top 12)) (b_part Γ) := by
  have nd : (["shape", "path", "current", "way"] : List Str).Nodup := s_part.nd
  have hu : (cxOf (L2.CX P w) P w K mg base ["shape", "path", "current", "way"] "part" (defScope (top 12)) fa cdv A outer s H E).A.units + 200 < cLine := by
    have := hr.un
    show (A.deeper (envOfC "part" (defScope (top 12)) s.heap.objs.size fa cdv)).units + 200 < cLine
    omega
  have hu1 : (cxOf (L2.CX P w) P w K mg base ["shape", "path", "current", "way"] "part" (defScope (top 12)) fa cdv A outer s H E).A.units + 1 < cLine := by omega
  exact (gs_cons (gs_set 2 (ge_var 0) nd)
    (gs_cons (gs_for hp rfl (gi_seq (ge_var 1)) (gg_name 3 nd) (gs_cons (gs_if (GW.pt (gw_or (gt_not (gt_tru (ge_var 2))) (gw_or (gt_cmp og_ge (ge_bin og_add (ge_var 3) ge_int) (ge_len (ge_var 2) fc.f_len)) (gw_or1 (gt_cmp og_lt (ge_var 3) ge_int))))) (gs_cons (gs_raise [78, 111, 83, 117, 99, 104, 69, 108, 101, 109, 101, 110, 116] rfl tk fc.e_NoSuchElement.1 fc.e_NoSuchElement.2.2.2.2 fc.e_NoSuchElement.2.1 fc.e_NoSuchElement.2.2.1 fc.e_NoSuchElement.2.2.2.1)
    gs_nil) gs_nil)
    (gs_cons (gs_set 2 (ge_ix hu1 (ge_var 2) (ge_bin og_add (ge_var 3) ge_int)) nd)
    gs_nil)))
    (gs_cons (gs_if (gt_not (gt_tru (ge_var 2))) (gs_cons (gs_raise [78, 111, 83, 117, 99, 104, 69, 108, 101, 109, 101, 110, 116] rfl tk fc.e_NoSuchElement.1 fc.e_NoSuchElement.2.2.2.2 fc.e_NoSuchElement.2.1 fc.e_NoSuchElement.2.2.1 fc.e_NoSuchElement.2.2.2.1)
    gs_nil) gs_nil)
    (gs_cons (gs_ret (ge_var 2))
    gs_nil))))
theorem k_part {fd : FuncData} (F : AllK P w K mg base sig k Γ) (M : AllM P w K mg base msig 27 k Γ) (fc : Fc K mg) (U : FnP K "part" 12 fd) : FnOk P w K mg base (L2.CX P w) (k + 2) (He.ga K "part") fd ["shape", "path"] (spG K (d_part Γ) 2) :=
  fn_G (k := k + 1) U s_part (fun args h _ => .inl rfl) fun cdv A outer s H E hr hp tk => w_part F M fc hr hp tk
theorem s_with_part : FnScope ["shape", "path", "new", "above", "current", "way", "result", "outer"] ["shape", "path", "new"] (defScope (top 13)) := ⟨rfl, rfl, rfl, by decide +kernel, rfl, by decide +kernel, by decide +kernel⟩
theorem w_with_part (F : AllK P w K mg base sig k Γ) (M : AllM P w K mg base msig 27 k Γ) (fc : Fc K mg) {fa : Addr} {cdv : Value} {A : Around} {outer : List PySem.Env} {s : Shared} {H : Hp} {E : XK} (hr : Room (k + 1) (A.deeper (envOfC "with_part" (defScope (top 13)) s.heap.objs.size fa cdv)))
    (hp : PassesOwn (model P w) (A.deeper (envOfC "with_part" (defScope (top 13)) s.heap.objs.size fa cdv)) (envOfC "with_part" (defScope (top 13)) s.heap.objs.size fa cdv) (cxOf (L2.CX P w) P w K mg base ["shape", "path", "new", "above", "current", "way", "result", "outer"] "with_part" (defScope (top 13)) fa cdv A outer s H E).xe)
    (tk : Takes (cxOf (L2.CX P w) P w K mg base ["shape", "path", "new", "above", "current", "way", "result", "outer"] "with_part" (defScope (top 13)) fa cdv A outer s H E) (WD E)) :
    GSs (cxOf (L2.CX P w) P w K mg base ["shape", "path", "new", "above", "current", "way", "result", "outer"] "with_part" (defScope (top 13)) fa cdv A outer s H E) (WD E) (defBody (top 13)) (b_with_part Γ) := by
  have nd : (["shape", "path", "new", "above", "current", "way", "result", "outer"] : List Str).Nodup := s_with_part.nd
  have hu : (cxOf (L2.CX P w) P w K mg base ["shape", "path", "new", "above", "current", "way", "result", "outer"] "with_part" (defScope (top 13)) fa cdv A outer s H E).A.units + 200 < cLine := by
    have := hr.un
    show (A.deeper (envOfC "with_part" (defScope (top 13)) s.heap.objs.size fa cdv)).units + 200 < cLine
    omega
  have hu1 : (cxOf (L2.CX P w) P w K mg base ["shape", "path", "new", "above", "current", "way", "result", "outer"] "with_part" (defScope (top 13)) fa cdv A outer s H E).A.units + 1 < cLine := by omega
  exact (gs_cons (gs_set 3 (ge_lstM ga_nil) nd)
    (gs_cons (gs_set 4 (ge_var 0) nd)
    (gs_cons (gs_for hp rfl (gi_seq (ge_var 1)) (gg_name 5 nd) (gs_cons (gs_if (GW.pt (gw_or (gt_not (gt_tru (ge_var 4))) (gw_or (gt_cmp og_ge (ge_bin og_add (ge_var 5) ge_int) (ge_len (ge_var 4) fc.f_len)) (gw_or1 (gt_cmp og_lt (ge_var 5) ge_int))))) (gs_cons (gs_raise [78, 111, 83, 117, 99, 104, 69, 108, 101, 109, 101, 110, 116] rfl tk fc.e_NoSuchElement.1 fc.e_NoSuchElement.2.2.2.2 fc.e_NoSuchElement.2.1 fc.e_NoSuchElement.2.2.1 fc.e_NoSuchElement.2.2.2.1)
    gs_nil) gs_nil)
    (gs_cons (gs_expr (ge_append (ge_var 3) (ge_tup (ga_cons (ge_var 4) (ga_cons (ge_var 5) ga_nil)))))
    (gs_cons (gs_set 4 (ge_ix hu1 (ge_var 4) (ge_bin og_add (ge_var 5) ge_int)) nd)
    gs_nil))))
    (gs_cons (gs_set 6 (ge_var 2) nd)
    (gs_cons (gs_for hp rfl (gi_seq (ge_rev (ge_var 3))) (gg_tup rfl (ggs_cons (gg_name 7 nd) (ggs_cons (gg_name 5 nd) ggs_nil))) (gs_cons (gs_set 6 (ge_bin og_add (ge_bin og_add (ge_cut (ge_var 7) go_none (go_some (ge_bin og_add (ge_var 5) ge_int))) (ge_tup (ga_cons (ge_var 6) ga_nil))) (ge_cut (ge_var 7) (go_some (ge_bin og_add (ge_var 5) ge_int)) go_none)) nd)
    gs_nil))
    (gs_cons (gs_ret (ge_var 6))
    gs_nil))))))
theorem k_with_part {fd : FuncData} (F : AllK P w K mg base sig k Γ) (M : AllM P w K mg base msig 27 k Γ) (fc : Fc K mg) (U : FnP K "with_part" 13 fd) : FnOk P w K mg base (L2.CX P w) (k + 2) (He.ga K "with_part") fd ["shape", "path", "new"] (spG K (d_with_part Γ) 3) :=
  fn_G (k := k + 1) U s_with_part (fun args h _ => .inr rfl) fun cdv A outer s H E hr hp tk => w_with_part F M fc hr hp tk
theorem s_write_shape : FnScope ["shape", "pieces", "waiting", "current"] ["shape"] (defScope (top 14)) := ⟨rfl, rfl, rfl, by decide +kernel, rfl, by decide +kernel, by decide +kernel⟩
theorem w_write_shape (F : AllK P w K mg base sig k Γ) (M : AllM P w K mg base msig 27 k Γ) (fc : Fc K mg) {fa : Addr} {cdv : Value} {A : Around} {outer : List PySem.Env} {s : Shared} {H : Hp} {E : XK} (hr : Room (k + 1) (A.deeper (envOfC "write_shape" (defScope (top 14)) s.heap.objs.size fa cdv)))
    (hp : PassesOwn (model P w) (A.deeper (envOfC "write_shape" (defScope (top 14)) s.heap.objs.size fa cdv)) (envOfC "write_shape" (defScope (top 14)) s.heap.objs.size fa cdv) (cxOf (L2.CX P w) P w K mg base ["shape", "pieces", "waiting", "current"] "write_shape" (defScope (top 14)) fa cdv A outer s H E).xe)
    (tk : Takes (cxOf (L2.CX P w) P w K mg base ["shape", "pieces", "waiting", "current"] "write_shape" (defScope (top 14)) fa cdv A outer s H E) (WD E)) :
    GSs (cxOf (L2.CX P w) P w K mg base ["shape", "pieces", "waiting", "current"] "write_shape" (defScope (top 14)) fa cdv A outer s H E) (WD E) (defBody (top 14)) (b_write_shape Γ) := by
  have nd : (["shape", "pieces", "waiting", "current"] : List Str).Nodup := s_write_shape.nd
  have hu : (cxOf (L2.CX P w) P w K mg base ["shape", "pieces", "waiting", "current"] "write_shape" (defScope (top 14)) fa cdv A outer s H E).A.units + 200 < cLine := by
    have := hr.un
    show (A.deeper (envOfC "write_shape" (defScope (top 14)) s.heap.objs.size fa cdv)).units + 200 < cLine
    omega
  have hu1 : (cxOf (L2.CX P w) P w K mg base ["shape", "pieces", "waiting", "current"] "write_shape" (defScope (top 14)) fa cdv A outer s H E).A.units + 1 < cLine := by omega
  exact (gs_cons (gs_set 1 (ge_lstM ga_nil) nd)
    (gs_cons (gs_set 2 (ge_lstM (ga_cons (ge_var 0) ga_nil)) nd)
    (gs_cons (gs_while hp (gt_tru (ge_var 2)) (gs_cons (gs_set 3 (ge_pop (ge_var 2)) nd)
    (gs_cons (gs_if (gt_tru (ge_isi .str (ge_var 3) fc.f_isinstance fc.f_str)) (gs_cons (gs_expr (ge_append (ge_var 1) (ge_var 3)))
    gs_nil) (gs_cons (gs_if (gt_not (gt_tru (ge_var 3))) (gs_cons (gs_expr (ge_append (ge_var 1) (ge_str [46])))
    gs_nil) (gs_cons (gs_if (gt_cmp (og_eq hu) (ge_len (ge_var 3) fc.f_len) ge_int) (gs_cons (gs_expr (ge_append (ge_var 1) (ge_ix hu1 (ge_var 3) ge_int)))
    (gs_cons (gs_expr (ge_append (ge_var 2) (ge_ix hu1 (ge_var 3) ge_int)))
    gs_nil)) (gs_cons (gs_expr (ge_append (ge_var 1) (ge_ix hu1 (ge_var 3) ge_int)))
    (gs_cons (gs_expr (ge_extend (ge_var 2) (ge_lst (ga_cons (ge_str [41]) (ga_cons (ge_ix hu1 (ge_var 3) ge_int) (ga_cons (ge_str [44]) (ga_cons (ge_ix hu1 (ge_var 3) ge_int) (ga_cons (ge_str [40]) ga_nil))))))))
    gs_nil)))
    gs_nil))
    gs_nil))
    gs_nil)))
    (gs_cons (gs_ret (ge_join (ge_str []) (ge_var 1)))
    gs_nil))))
theorem k_write_shape {fd : FuncData} (F : AllK P w K mg base sig k Γ) (M : AllM P w K mg base msig 27 k Γ) (fc : Fc K mg) (U : FnP K "write_shape" 14 fd) : FnOk P w K mg base (L2.CX P w) (k + 2) (He.ga K "write_shape") fd ["shape"] (spG K (d_write_shape Γ) 1) :=
  fn_G (k := k + 1) U s_write_shape (fun args h _ => .inr rfl) fun cdv A outer s H E hr hp tk => w_write_shape F M fc hr hp tk
theorem s_read_shape : FnScope ["kind", "text", "reader", "result"] ["kind", "text"] (defScope (top 16)) := ⟨rfl, rfl, rfl, by decide +kernel, rfl, by decide +kernel, by decide +kernel⟩
theorem w_read_shape (F : AllK P w K mg base sig k Γ) (M : AllM P w K mg base msig 27 k Γ) (fc : Fc K mg) {fa : Addr} {cdv : Value} {A : Around} {outer : List PySem.Env} {s : Shared} {H : Hp} {E : XK} (hr : Room (k + 1) (A.deeper (envOfC "read_shape" (defScope (top 16)) s.heap.objs.size fa cdv)))
    (hp : PassesOwn (model P w) (A.deeper (envOfC "read_shape" (defScope (top 16)) s.heap.objs.size fa cdv)) (envOfC "read_shape" (defScope (top 16)) s.heap.objs.size fa cdv) (cxOf (L2.CX P w) P w K mg base ["kind", "text", "reader", "result"] "read_shape" (defScope (top 16)) fa cdv A outer s H E).xe)
    (tk : Takes (cxOf (L2.CX P w) P w K mg base ["kind", "text", "reader", "result"] "read_shape" (defScope (top 16)) fa cdv A outer s H E) (WD E)) :
    GSs (cxOf (L2.CX P w) P w K mg base ["kind", "text", "reader", "result"] "read_shape" (defScope (top 16)) fa cdv A outer s H E) (WD E) (defBody (top 16)) (b_read_shape Γ) := by
  have nd : (["kind", "text", "reader", "result"] : List Str).Nodup := s_read_shape.nd
  have hu : (cxOf (L2.CX P w) P w K mg base ["kind", "text", "reader", "result"] "read_shape" (defScope (top 16)) fa cdv A outer s H E).A.units + 200 < cLine := by
    have := hr.un
    show (A.deeper (envOfC "read_shape" (defScope (top 16)) s.heap.objs.size fa cdv)).units + 200 < cLine
    omega
  have hu1 : (cxOf (L2.CX P w) P w K mg base ["kind", "text", "reader", "result"] "read_shape" (defScope (top 16)) fa cdv A outer s H E).A.units + 1 < cLine := by omega
  exact (gs_cons (gs_expr (ge_fn (F 0 _ _ rfl) (hr.mono (Nat.le_succ _)) tk (gan_cons (ge_var 0) gan_nil)))
    (gs_cons (gs_set 2 (ge_make [83, 104, 97, 112, 101, 82, 101, 97, 100, 101, 114] (M 0 _ _ _ rfl) fc.mk_ShapeReader fc.g_ShapeReader hr tk (gan_cons (ge_var 0) (gan_cons (ge_var 1) gan_nil))) nd)
    (gs_cons (gs_set 3 (ge_mth0 [83, 104, 97, 112, 101, 82, 101, 97, 100, 101, 114] [115, 104, 97, 112, 101] (ge_var 2) fc.k_ShapeReader (M 3 _ _ _ rfl) (hr.mono (Nat.le_succ _)) tk) nd)
    (gs_cons (gs_if (gt_cmp og_lt (ge_fld [83, 104, 97, 112, 101, 82, 101, 97, 100, 101, 114] [97, 116] (ge_var 2) fc.k_ShapeReader fc.n_ShapeReader_at) (ge_len (ge_var 1) fc.f_len)) (gs_cons (gs_raise [73, 110, 118, 97, 108, 105, 100, 83, 104, 97, 112, 101] rfl tk fc.e_InvalidShape.1 fc.e_InvalidShape.2.2.2.2 fc.e_InvalidShape.2.1 fc.e_InvalidShape.2.2.1 fc.e_InvalidShape.2.2.2.1)
    gs_nil) gs_nil)
    (gs_cons (gs_ret (ge_var 3))
    gs_nil)))))
theorem k_read_shape {fd : FuncData} (F : AllK P w K mg base sig k Γ) (M : AllM P w K mg base msig 27 k Γ) (fc : Fc K mg) (U : FnP K "read_shape" 16 fd) : FnOk P w K mg base (L2.CX P w) (k + 2) (He.ga K "read_shape") fd ["kind", "text"] (spG K (d_read_shape Γ) 2) :=
  fn_G (k := k + 1) U s_read_shape (fun args h _ => .inr rfl) fun cdv A outer s H E hr hp tk => w_read_shape F M fc hr hp tk
theorem s__law_tape : FnScope ["script", "cells", "seed", "cell"] ["script"] (defScope (top 18)) := ⟨rfl, rfl, rfl, by decide +kernel, rfl, by decide +kernel, by decide +kernel⟩
theorem w__law_tape (F : AllK P w K mg base sig k Γ) (M : AllM P w K mg base msig 27 k Γ) (fc : Fc K mg) {fa : Addr} {cdv : Value} {A : Around} {outer : List PySem.Env} {s : Shared} {H : Hp} {E : XK} (hr : Room (k + 1) (A.deeper (envOfC "_law_tape" (defScope (top 18)) s.heap.objs.size fa cdv)))
    (hp : PassesOwn (model P w) (A.deeper (envOfC "_law_tape" (defScope (top 18)) s.heap.objs.size fa cdv)) (envOfC "_law_tape" (defScope (top 18)) s.heap.objs.size fa cdv) (cxOf (L2.CX P w) P w K mg base ["script", "cells", "seed", "cell"] "_law_tape" (defScope (top 18)) fa cdv A outer s H E).xe)
    (tk : Takes (cxOf (L2.CX P w) P w K mg base ["script", "cells", "seed", "cell"] "_law_tape" (defScope (top 18)) fa cdv A outer s H E) (WD E)) :
    GSs (cxOf (L2.CX P w) P w K mg base ["script", "cells", "seed", "cell"] "_law_tape" (defScope (top 18)) fa cdv A outer s H E) (WD E) (defBody (top 18)) (b__law_tape Γ) := by
  have nd : (["script", "cells", "seed", "cell"] : List Str).Nodup := s__law_tape.nd
  have hu : (cxOf (L2.CX P w) P w K mg base ["script", "cells", "seed", "cell"] "_law_tape" (defScope (top 18)) fa cdv A outer s H E).A.units + 200 < cLine := by
    have := hr.un
    show (A.deeper (envOfC "_law_tape" (defScope (top 18)) s.heap.objs.size fa cdv)).units + 200 < cLine
    omega
  have hu1 : (cxOf (L2.CX P w) P w K mg base ["script", "cells", "seed", "cell"] "_law_tape" (defScope (top 18)) fa cdv A outer s H E).A.units + 1 < cLine := by omega
  exact (gs_cons (gs_setLc fin_frozen 1 [("cell", 3)] rfl nd (gi_seq (ge_var 0)) (fun _ _ _ _ _ => (gc_name 3 nd)) (fun _ _ _ _ _ => gts_nil) (fun _ _ _ _ _ => (ge_b1 c1_abs (ge_t1 c1_int (ge_var 3) fc.f_int) fc.f_abs)))
    (gs_cons (gs_set 2 ge_int nd)
    (gs_cons (gs_for hp rfl (gi_seq (ge_var 1)) (gg_name 3 nd) (gs_cons (gs_set 2 (ge_bin og_mod (ge_t1 c1_int (ge_bin og_add (ge_bin og_mul (ge_var 2) ge_int) (ge_var 3)) fc.f_int) ge_int) nd)
    gs_nil))
    (gs_cons (gs_ret (ge_disp (gps_cons (ge_str [99, 101, 108, 108, 115]) (ge_var 1) (gps_cons (ge_str [97, 116]) ge_int (gps_cons (ge_str [108, 101, 102, 116]) ge_int (gps_cons (ge_str [115, 101, 101, 100]) (ge_var 2) (gps_cons (ge_str [115, 97, 108, 116]) ge_int gps_nil)))))))
    gs_nil))))
theorem k__law_tape {fd : FuncData} (F : AllK P w K mg base sig k Γ) (M : AllM P w K mg base msig 27 k Γ) (fc : Fc K mg) (U : FnP K "_law_tape" 18 fd) : FnOk P w K mg base (L2.CX P w) (k + 2) (He.ga K "_law_tape") fd ["script"] (spG K (d__law_tape Γ) 1) :=
  fn_G (k := k + 1) U s__law_tape (fun args h _ => .inl rfl) fun cdv A outer s H E hr hp tk => w__law_tape F M fc hr hp tk
theorem s__law_take : FnScope ["tape", "many", "mixed", "drawn"] ["tape", "many"] (defScope (top 19)) := ⟨rfl, rfl, rfl, by decide +kernel, rfl, by decide +kernel, by decide +kernel⟩
theorem w__law_take (F : AllK P w K mg base sig k Γ) (M : AllM P w K mg base msig 27 k Γ) (fc : Fc K mg) {fa : Addr} {cdv : Value} {A : Around} {outer : List PySem.Env} {s : Shared} {H : Hp} {E : XK} (hr : Room (k + 1) (A.deeper (envOfC "_law_take" (defScope (top 19)) s.heap.objs.size fa cdv)))
    (hp : PassesOwn (model P w) (A.deeper (envOfC "_law_take" (defScope (top 19)) s.heap.objs.size fa cdv)) (envOfC "_law_take" (defScope (top 19)) s.heap.objs.size fa cdv) (cxOf (L2.CX P w) P w K mg base ["tape", "many", "mixed", "drawn"] "_law_take" (defScope (top 19)) fa cdv A outer s H E).xe)
    (tk : Takes (cxOf (L2.CX P w) P w K mg base ["tape", "many", "mixed", "drawn"] "_law_take" (defScope (top 19)) fa cdv A outer s H E) (WD E)) :
    GSs (cxOf (L2.CX P w) P w K mg base ["tape", "many", "mixed", "drawn"] "_law_take" (defScope (top 19)) fa cdv A outer s H E) (WD E) (defBody (top 19)) (b__law_take Γ) := by
  have nd : (["tape", "many", "mixed", "drawn"] : List Str).Nodup := s__law_take.nd
  have hu : (cxOf (L2.CX P w) P w K mg base ["tape", "many", "mixed", "drawn"] "_law_take" (defScope (top 19)) fa cdv A outer s H E).A.units + 200 < cLine := by
    have := hr.un
    show (A.deeper (envOfC "_law_take" (defScope (top 19)) s.heap.objs.size fa cdv)).units + 200 < cLine
    omega
  have hu1 : (cxOf (L2.CX P w) P w K mg base ["tape", "many", "mixed", "drawn"] "_law_take" (defScope (top 19)) fa cdv A outer s H E).A.units + 1 < cLine := by omega
  exact (gs_cons (gs_if (GW.pt (gw_and (gt_cmp (og_eq hu) (ge_ix hu1 (ge_var 0) (ge_str [108, 101, 102, 116])) ge_int) (gw_and1 (gt_cmp og_lt (ge_ix hu1 (ge_var 0) (ge_str [97, 116])) (ge_len (ge_ix hu1 (ge_var 0) (ge_str [99, 101, 108, 108, 115])) fc.f_len))))) (gs_cons (gs_asg (ge_ix hu1 (ge_ix hu1 (ge_var 0) (ge_str [99, 101, 108, 108, 115])) (ge_ix hu1 (ge_var 0) (ge_str [97, 116]))) (gg_sub hu1 (ge_var 0) (ge_str [108, 101, 102, 116])))
    (gs_cons (gs_asg (ge_bin og_add (ge_ix hu1 (ge_var 0) (ge_str [97, 116])) ge_int) (gg_sub hu1 (ge_var 0) (ge_str [97, 116])))
    gs_nil)) gs_nil)
    (gs_cons (gs_if (gt_cmp og_gt (ge_ix hu1 (ge_var 0) (ge_str [108, 101, 102, 116])) ge_int) (gs_cons (gs_set 3 (ge_bin og_mod (ge_t1 c1_int (ge_ix hu1 (ge_var 0) (ge_str [108, 101, 102, 116])) fc.f_int) (ge_var 1)) nd)
    (gs_cons (gs_asg (ge_bin og_div (ge_ix hu1 (ge_var 0) (ge_str [108, 101, 102, 116])) (ge_var 1)) (gg_sub hu1 (ge_var 0) (ge_str [108, 101, 102, 116])))
    (gs_cons (gs_ret (ge_var 3))
    gs_nil))) gs_nil)
    (gs_cons (gs_asg (ge_bin og_add (ge_ix hu1 (ge_var 0) (ge_str [115, 97, 108, 116])) ge_int) (gg_sub hu1 (ge_var 0) (ge_str [115, 97, 108, 116])))
    (gs_cons (gs_set 2 (ge_bin og_mod (ge_t1 c1_int (ge_bin og_add (ge_bin og_mul (ge_ix hu1 (ge_var 0) (ge_str [115, 101, 101, 100])) ge_int) (ge_bin og_mul (ge_ix hu1 (ge_var 0) (ge_str [115, 97, 108, 116])) ge_int)) fc.f_int) ge_int) nd)
    (gs_cons (gs_set 2 (ge_bin og_mod (ge_t1 c1_int (ge_bin og_add (ge_bin og_add (ge_bin og_mul (ge_var 2) (ge_var 2)) (ge_bin og_mul (ge_ix hu1 (ge_var 0) (ge_str [115, 97, 108, 116])) ge_int)) ge_int) fc.f_int) ge_int) nd)
    (gs_cons (gs_ret (ge_bin og_mod (ge_t1 c1_int (ge_var 2) fc.f_int) (ge_var 1)))
    gs_nil))))))
theorem k__law_take {fd : FuncData} (F : AllK P w K mg base sig k Γ) (M : AllM P w K mg base msig 27 k Γ) (fc : Fc K mg) (U : FnP K "_law_take" 19 fd) : FnOk P w K mg base (L2.CX P w) (k + 2) (He.ga K "_law_take") fd ["tape", "many"] (spG K (d__law_take Γ) 2) :=
  fn_G (k := k + 1) U s__law_take (fun args h _ => .inl rfl) fun cdv A outer s H E hr hp tk => w__law_take F M fc hr hp tk
theorem s__law_is_integer : FnScope ["actual"] ["actual"] (defScope (top 20)) := ⟨rfl, rfl, rfl, by decide +kernel, rfl, by decide +kernel, by decide +kernel⟩
theorem w__law_is_integer (F : AllK P w K mg base sig k Γ) (M : AllM P w K mg base msig 27 k Γ) (fc : Fc K mg) {fa : Addr} {cdv : Value} {A : Around} {outer : List PySem.Env} {s : Shared} {H : Hp} {E : XK} (hr : Room (k + 1) (A.deeper (envOfC "_law_is_integer" (defScope (top 20)) s.heap.objs.size fa cdv)))
    (hp : PassesOwn (model P w) (A.deeper (envOfC "_law_is_integer" (defScope (top 20)) s.heap.objs.size fa cdv)) (envOfC "_law_is_integer" (defScope (top 20)) s.heap.objs.size fa cdv) (cxOf (L2.CX P w) P w K mg base ["actual"] "_law_is_integer" (defScope (top 20)) fa cdv A outer s H E).xe)
    (tk : Takes (cxOf (L2.CX P w) P w K mg base ["actual"] "_law_is_integer" (defScope (top 20)) fa cdv A outer s H E) (WD E)) :
    GSs (cxOf (L2.CX P w) P w K mg base ["actual"] "_law_is_integer" (defScope (top 20)) fa cdv A outer s H E) (WD E) (defBody (top 20)) (b__law_is_integer Γ) := by
  have nd : (["actual"] : List Str).Nodup := s__law_is_integer.nd
  have hu : (cxOf (L2.CX P w) P w K mg base ["actual"] "_law_is_integer" (defScope (top 20)) fa cdv A outer s H E).A.units + 200 < cLine := by
    have := hr.un
    show (A.deeper (envOfC "_law_is_integer" (defScope (top 20)) s.heap.objs.size fa cdv)).units + 200 < cLine
    omega
  have hu1 : (cxOf (L2.CX P w) P w K mg base ["actual"] "_law_is_integer" (defScope (top 20)) fa cdv A outer s H E).A.units + 1 < cLine := by omega
  exact (gs_cons (gs_ret (ge_and (ge_isi .int (ge_var 0) fc.f_isinstance fc.f_int) (ge_one (ge_not (ge_isi .bool (ge_var 0) fc.f_isinstance fc.f_bool)))))
    gs_nil)
theorem k__law_is_integer {fd : FuncData} (F : AllK P w K mg base sig k Γ) (M : AllM P w K mg base msig 27 k Γ) (fc : Fc K mg) (U : FnP K "_law_is_integer" 20 fd) : FnOk P w K mg base (L2.CX P w) (k + 2) (He.ga K "_law_is_integer") fd ["actual"] (spG K (d__law_is_integer Γ) 1) :=
  fn_G (k := k + 1) U s__law_is_integer (fun args h _ => .inl rfl) fun cdv A outer s H E hr hp tk => w__law_is_integer F M fc hr hp tk
theorem s__law_same_items : FnScope ["actual", "expected", "k"] ["actual", "expected"] (defScope (top 21)) := ⟨rfl, rfl, rfl, by decide +kernel, rfl, by decide +kernel, by decide +kernel⟩
theorem w__law_same_items (F : AllK P w K mg base sig k Γ) (M : AllM P w K mg base msig 27 k Γ) (fc : Fc K mg) {fa : Addr} {cdv : Value} {A : Around} {outer : List PySem.Env} {s : Shared} {H : Hp} {E : XK} (hr : Room (k + 1) (A.deeper (envOfC "_law_same_items" (defScope (top 21)) s.heap.objs.size fa cdv)))
    (hp : PassesOwn (model P w) (A.deeper (envOfC "_law_same_items" (defScope (top 21)) s.heap.objs.size fa cdv)) (envOfC "_law_same_items" (defScope (top 21)) s.heap.objs.size fa cdv) (cxOf (L2.CX P w) P w K mg base ["actual", "expected", "k"] "_law_same_items" (defScope (top 21)) fa cdv A outer s H E).xe)
    (tk : Takes (cxOf (L2.CX P w) P w K mg base ["actual", "expected", "k"] "_law_same_items" (defScope (top 21)) fa cdv A outer s H E) (WD E)) :
    GSs (cxOf (L2.CX P w) P w K mg base ["actual", "expected", "k"] "_law_same_items" (defScope (top 21)) fa cdv A outer s H E) (WD E) (defBody (top 21)) (b__law_same_items Γ) := by
  have nd : (["actual", "expected", "k"] : List Str).Nodup := s__law_same_items.nd
  have hu : (cxOf (L2.CX P w) P w K mg base ["actual", "expected", "k"] "_law_same_items" (defScope (top 21)) fa cdv A outer s H E).A.units + 200 < cLine := by
    have := hr.un
    show (A.deeper (envOfC "_law_same_items" (defScope (top 21)) s.heap.objs.size fa cdv)).units + 200 < cLine
    omega
  have hu1 : (cxOf (L2.CX P w) P w K mg base ["actual", "expected", "k"] "_law_same_items" (defScope (top 21)) fa cdv A outer s H E).A.units + 1 < cLine := by omega
  exact (gs_cons (gs_if (gt_cmp (og_ne hu) (ge_len (ge_var 0) fc.f_len) (ge_len (ge_var 1) fc.f_len)) (gs_cons (gs_ret ge_bl)
    gs_nil) gs_nil)
    (gs_cons (gs_for hp rfl (gi_range1 (ge_len (ge_var 1) fc.f_len) fc.f_range) (gg_name 2 nd) (gs_cons (gs_if (gt_not (gt_tru (ge_fn (F 13 _ _ rfl) (hr.mono (Nat.le_succ _)) tk (gan_cons (ge_ix hu1 (ge_var 0) (ge_var 2)) (gan_cons (ge_ix hu1 (ge_var 1) (ge_var 2)) gan_nil))))) (gs_cons (gs_ret ge_bl)
    gs_nil) gs_nil)
    gs_nil))
    (gs_cons (gs_ret ge_bl)
    gs_nil)))
theorem k__law_same_items {fd : FuncData} (F : AllK P w K mg base sig k Γ) (M : AllM P w K mg base msig 27 k Γ) (fc : Fc K mg) (U : FnP K "_law_same_items" 21 fd) : FnOk P w K mg base (L2.CX P w) (k + 2) (He.ga K "_law_same_items") fd ["actual", "expected"] (spG K (d__law_same_items Γ) 2) :=
  fn_G (k := k + 1) U s__law_same_items (fun args h _ => .inl rfl) fun cdv A outer s H E hr hp tk => w__law_same_items F M fc hr hp tk
theorem s__law_same : FnScope ["actual", "expected", "key"] ["actual", "expected"] (defScope (top 22)) := ⟨rfl, rfl, rfl, by decide +kernel, rfl, by decide +kernel, by decide +kernel⟩
theorem w__law_same (F : AllK P w K mg base sig k Γ) (M : AllM P w K mg base msig 27 k Γ) (fc : Fc K mg) {fa : Addr} {cdv : Value} {A : Around} {outer : List PySem.Env} {s : Shared} {H : Hp} {E : XK} (hr : Room (k + 1) (A.deeper (envOfC "_law_same" (defScope (top 22)) s.heap.objs.size fa cdv)))
    (hp : PassesOwn (model P w) (A.deeper (envOfC "_law_same" (defScope (top 22)) s.heap.objs.size fa cdv)) (envOfC "_law_same" (defScope (top 22)) s.heap.objs.size fa cdv) (cxOf (L2.CX P w) P w K mg base ["actual", "expected", "key"] "_law_same" (defScope (top 22)) fa cdv A outer s H E).xe)
    (tk : Takes (cxOf (L2.CX P w) P w K mg base ["actual", "expected", "key"] "_law_same" (defScope (top 22)) fa cdv A outer s H E) (WD E)) :
    GSs (cxOf (L2.CX P w) P w K mg base ["actual", "expected", "key"] "_law_same" (defScope (top 22)) fa cdv A outer s H E) (WD E) (defBody (top 22)) (b__law_same Γ) := by
  have nd : (["actual", "expected", "key"] : List Str).Nodup := s__law_same.nd
  have hu : (cxOf (L2.CX P w) P w K mg base ["actual", "expected", "key"] "_law_same" (defScope (top 22)) fa cdv A outer s H E).A.units + 200 < cLine := by
    have := hr.un
    show (A.deeper (envOfC "_law_same" (defScope (top 22)) s.heap.objs.size fa cdv)).units + 200 < cLine
    omega
  have hu1 : (cxOf (L2.CX P w) P w K mg base ["actual", "expected", "key"] "_law_same" (defScope (top 22)) fa cdv A outer s H E).A.units + 1 < cLine := by omega
  exact (gs_cons (gs_if (gt_cmp og_isN (ge_var 1) ge_non) (gs_cons (gs_ret (ge_cmp og_isN (ge_var 0) ge_non))
    gs_nil) gs_nil)
    (gs_cons (gs_if (gt_tru (ge_isi .bool (ge_var 1) fc.f_isinstance fc.f_bool)) (gs_cons (gs_ret (ge_and (ge_isi .bool (ge_var 0) fc.f_isinstance fc.f_bool) (ge_one (ge_cmp (og_eq hu) (ge_var 0) (ge_var 1)))))
    gs_nil) gs_nil)
    (gs_cons (gs_if (gt_tru (ge_isi .int (ge_var 1) fc.f_isinstance fc.f_int)) (gs_cons (gs_ret (ge_and (ge_fn (F 11 _ _ rfl) (hr.mono (Nat.le_succ _)) tk (gan_cons (ge_var 0) gan_nil)) (ge_one (ge_cmp (og_eq hu) (ge_var 0) (ge_var 1)))))
    gs_nil) gs_nil)
    (gs_cons (gs_if (gt_tru (ge_isi .str (ge_var 1) fc.f_isinstance fc.f_str)) (gs_cons (gs_ret (ge_and (ge_isi .str (ge_var 0) fc.f_isinstance fc.f_str) (ge_one (ge_cmp (og_eq hu) (ge_var 0) (ge_var 1)))))
    gs_nil) gs_nil)
    (gs_cons (gs_if (gt_tru (ge_isi .tuple (ge_var 1) fc.f_isinstance fc.f_tuple)) (gs_cons (gs_ret (ge_and (ge_isi .tuple (ge_var 0) fc.f_isinstance fc.f_tuple) (ge_one (ge_fn (F 12 _ _ rfl) (hr.mono (Nat.le_succ _)) tk (gan_cons (ge_var 0) (gan_cons (ge_var 1) gan_nil))))))
    gs_nil) gs_nil)
    (gs_cons (gs_if (gt_tru (ge_isi .list (ge_var 1) fc.f_isinstance fc.f_list)) (gs_cons (gs_ret (ge_and (ge_isi .list (ge_var 0) fc.f_isinstance fc.f_list) (ge_one (ge_fn (F 12 _ _ rfl) (hr.mono (Nat.le_succ _)) tk (gan_cons (ge_var 0) (gan_cons (ge_var 1) gan_nil))))))
    gs_nil) gs_nil)
    (gs_cons (gs_if (GW.pt (gw_or (gt_not (gt_tru (ge_isi .dict (ge_var 0) fc.f_isinstance fc.f_dict))) (gw_or1 (gt_cmp (og_ne hu) (ge_len (ge_var 0) fc.f_len) (ge_len (ge_var 1) fc.f_len))))) (gs_cons (gs_ret ge_bl)
    gs_nil) gs_nil)
    (gs_cons (gs_for hp rfl (gi_seq (ge_var 1)) (gg_name 2 nd) (gs_cons (gs_if (GW.pt (gw_or (gt_cmp (og_notIn hu) (ge_var 2) (ge_var 0)) (gw_or1 (gt_not (gt_tru (ge_fn (F 13 _ _ rfl) (hr.mono (Nat.le_succ _)) tk (gan_cons (ge_ix hu1 (ge_var 0) (ge_var 2)) (gan_cons (ge_ix hu1 (ge_var 1) (ge_var 2)) gan_nil)))))))) (gs_cons (gs_ret ge_bl)
    gs_nil) gs_nil)
    gs_nil))
    (gs_cons (gs_for hp rfl (gi_seq (ge_var 0)) (gg_name 2 nd) (gs_cons (gs_if (gt_tru (ge_isi .bool (ge_var 2) fc.f_isinstance fc.f_bool)) (gs_cons (gs_ret ge_bl)
    gs_nil) gs_nil)
    gs_nil))
    (gs_cons (gs_ret ge_bl)
    gs_nil))))))))))
theorem k__law_same {fd : FuncData} (F : AllK P w K mg base sig k Γ) (M : AllM P w K mg base msig 27 k Γ) (fc : Fc K mg) (U : FnP K "_law_same" 22 fd) : FnOk P w K mg base (L2.CX P w) (k + 2) (He.ga K "_law_same") fd ["actual", "expected"] (spG K (d__law_same Γ) 2) :=
  fn_G (k := k + 1) U s__law_same (fun args h _ => .inl rfl) fun cdv A outer s H E hr hp tk => w__law_same F M fc hr hp tk
theorem s__law_kind : FnScope ["tape", "labels"] ["tape"] (defScope (top 23)) := ⟨rfl, rfl, rfl, by decide +kernel, rfl, by decide +kernel, by decide +kernel⟩
theorem w__law_kind (F : AllK P w K mg base sig k Γ) (M : AllM P w K mg base msig 27 k Γ) (fc : Fc K mg) {fa : Addr} {cdv : Value} {A : Around} {outer : List PySem.Env} {s : Shared} {H : Hp} {E : XK} (hr : Room (k + 1) (A.deeper (envOfC "_law_kind" (defScope (top 23)) s.heap.objs.size fa cdv)))
    (hp : PassesOwn (model P w) (A.deeper (envOfC "_law_kind" (defScope (top 23)) s.heap.objs.size fa cdv)) (envOfC "_law_kind" (defScope (top 23)) s.heap.objs.size fa cdv) (cxOf (L2.CX P w) P w K mg base ["tape", "labels"] "_law_kind" (defScope (top 23)) fa cdv A outer s H E).xe)
    (tk : Takes (cxOf (L2.CX P w) P w K mg base ["tape", "labels"] "_law_kind" (defScope (top 23)) fa cdv A outer s H E) (WD E)) :
    GSs (cxOf (L2.CX P w) P w K mg base ["tape", "labels"] "_law_kind" (defScope (top 23)) fa cdv A outer s H E) (WD E) (defBody (top 23)) (b__law_kind Γ) := by
  have nd : (["tape", "labels"] : List Str).Nodup := s__law_kind.nd
  have hu : (cxOf (L2.CX P w) P w K mg base ["tape", "labels"] "_law_kind" (defScope (top 23)) fa cdv A outer s H E).A.units + 200 < cLine := by
    have := hr.un
    show (A.deeper (envOfC "_law_kind" (defScope (top 23)) s.heap.objs.size fa cdv)).units + 200 < cLine
    omega
  have hu1 : (cxOf (L2.CX P w) P w K mg base ["tape", "labels"] "_law_kind" (defScope (top 23)) fa cdv A outer s H E).A.units + 1 < cLine := by omega
  exact (gs_cons (gs_set 1 (ge_ix hu1 (ge_tup (ga_cons (ge_tup (ga_cons (ge_str [97]) ga_nil)) (ga_cons (ge_tup (ga_cons (ge_str [97]) (ga_cons (ge_str [98]) ga_nil))) (ga_cons (ge_tup (ga_cons (ge_str [97]) (ga_cons (ge_str [98]) ga_nil))) (ga_cons (ge_tup (ga_cons (ge_str [98]) (ga_cons (ge_str [100]) (ga_cons (ge_str [122]) ga_nil)))) ga_nil))))) (ge_fn (F 10 _ _ rfl) (hr.mono (Nat.le_succ _)) tk (gan_cons (ge_var 0) (gan_cons ge_int gan_nil)))) nd)
    (gs_cons (gs_ret (ge_tup (ga_cons (ge_bin og_add ge_int (ge_bin og_div (ge_fn (F 10 _ _ rfl) (hr.mono (Nat.le_succ _)) tk (gan_cons (ge_var 0) (gan_cons ge_int gan_nil))) ge_int)) (ga_cons (ge_var 1) ga_nil))))
    gs_nil))
theorem k__law_kind {fd : FuncData} (F : AllK P w K mg base sig k Γ) (M : AllM P w K mg base msig 27 k Γ) (fc : Fc K mg) (U : FnP K "_law_kind" 23 fd) : FnOk P w K mg base (L2.CX P w) (k + 2) (He.ga K "_law_kind") fd ["tape"] (spG K (d__law_kind Γ) 1) :=
  fn_G (k := k + 1) U s__law_kind (fun args h _ => .inl rfl) fun cdv A outer s H E hr hp tk => w__law_kind F M fc hr hp tk
theorem s__law_shape : FnScope ["tape", "kind", "count", "label", "left"] ["tape", "kind", "count"] (defScope (top 24)) := ⟨rfl, rfl, rfl, by decide +kernel, rfl, by decide +kernel, by decide +kernel⟩
theorem w__law_shape (F : AllK P w K mg base sig k Γ) (M : AllM P w K mg base msig 27 k Γ) (fc : Fc K mg) {fa : Addr} {cdv : Value} {A : Around} {outer : List PySem.Env} {s : Shared} {H : Hp} {E : XK} (hr : Room (k + 1) (A.deeper (envOfC "_law_shape" (defScope (top 24)) s.heap.objs.size fa cdv)))
    (hp : PassesOwn (model P w) (A.deeper (envOfC "_law_shape" (defScope (top 24)) s.heap.objs.size fa cdv)) (envOfC "_law_shape" (defScope (top 24)) s.heap.objs.size fa cdv) (cxOf (L2.CX P w) P w K mg base ["tape", "kind", "count", "label", "left"] "_law_shape" (defScope (top 24)) fa cdv A outer s H E).xe)
    (tk : Takes (cxOf (L2.CX P w) P w K mg base ["tape", "kind", "count", "label", "left"] "_law_shape" (defScope (top 24)) fa cdv A outer s H E) (WD E)) :
    GSs (cxOf (L2.CX P w) P w K mg base ["tape", "kind", "count", "label", "left"] "_law_shape" (defScope (top 24)) fa cdv A outer s H E) (WD E) (defBody (top 24)) (b__law_shape Γ) := by
  have nd : (["tape", "kind", "count", "label", "left"] : List Str).Nodup := s__law_shape.nd
  have hu : (cxOf (L2.CX P w) P w K mg base ["tape", "kind", "count", "label", "left"] "_law_shape" (defScope (top 24)) fa cdv A outer s H E).A.units + 200 < cLine := by
    have := hr.un
    show (A.deeper (envOfC "_law_shape" (defScope (top 24)) s.heap.objs.size fa cdv)).units + 200 < cLine
    omega
  have hu1 : (cxOf (L2.CX P w) P w K mg base ["tape", "kind", "count", "label", "left"] "_law_shape" (defScope (top 24)) fa cdv A outer s H E).A.units + 1 < cLine := by omega
  exact (gs_cons (gs_if (gt_cmp (og_eq hu) (ge_var 2) ge_int) (gs_cons (gs_ret (ge_tup ga_nil))
    gs_nil) gs_nil)
    (gs_cons (gs_set 3 (ge_ix hu1 (ge_ix hu1 (ge_var 1) ge_int) (ge_fn (F 10 _ _ rfl) (hr.mono (Nat.le_succ _)) tk (gan_cons (ge_var 0) (gan_cons (ge_len (ge_ix hu1 (ge_var 1) ge_int) fc.f_len) gan_nil)))) nd)
    (gs_cons (gs_if (gt_cmp (og_eq hu) (ge_ix hu1 (ge_var 1) ge_int) ge_int) (gs_cons (gs_ret (ge_tup (ga_cons (ge_var 3) (ga_cons (ge_fn (F 15 _ _ rfl) (hr.mono (Nat.le_succ _)) tk (gan_cons (ge_var 0) (gan_cons (ge_var 1) (gan_cons (ge_bin og_sub (ge_var 2) ge_int) gan_nil)))) ga_nil))))
    gs_nil) gs_nil)
    (gs_cons (gs_set 4 (ge_fn (F 10 _ _ rfl) (hr.mono (Nat.le_succ _)) tk (gan_cons (ge_var 0) (gan_cons (ge_var 2) gan_nil))) nd)
    (gs_cons (gs_ret (ge_tup (ga_cons (ge_var 3) (ga_cons (ge_fn (F 15 _ _ rfl) (hr.mono (Nat.le_succ _)) tk (gan_cons (ge_var 0) (gan_cons (ge_var 1) (gan_cons (ge_var 4) gan_nil)))) (ga_cons (ge_fn (F 15 _ _ rfl) (hr.mono (Nat.le_succ _)) tk (gan_cons (ge_var 0) (gan_cons (ge_var 1) (gan_cons (ge_bin og_sub (ge_bin og_sub (ge_var 2) ge_int) (ge_var 4)) gan_nil)))) ga_nil)))))
    gs_nil)))))
theorem k__law_shape {fd : FuncData} (F : AllK P w K mg base sig k Γ) (M : AllM P w K mg base msig 27 k Γ) (fc : Fc K mg) (U : FnP K "_law_shape" 24 fd) : FnOk P w K mg base (L2.CX P w) (k + 2) (He.ga K "_law_shape") fd ["tape", "kind", "count"] (spG K (d__law_shape Γ) 3) :=
  fn_G (k := k + 1) U s__law_shape (fun args h _ => .inl rfl) fun cdv A outer s H E hr hp tk => w__law_shape F M fc hr hp tk
theorem s__law_paths : FnScope ["shape", "path", "found", "way"] ["shape", "path"] (defScope (top 25)) := ⟨rfl, rfl, rfl, by decide +kernel, rfl, by decide +kernel, by decide +kernel⟩
theorem w__law_paths (F : AllK P w K mg base sig k Γ) (M : AllM P w K mg base msig 27 k Γ) (fc : Fc K mg) {fa : Addr} {cdv : Value} {A : Around} {outer : List PySem.Env} {s : Shared} {H : Hp} {E : XK} (hr : Room (k + 1) (A.deeper (envOfC "_law_paths" (defScope (top 25)) s.heap.objs.size fa cdv)))
    (hp : PassesOwn (model P w) (A.deeper (envOfC "_law_paths" (defScope (top 25)) s.heap.objs.size fa cdv)) (envOfC "_law_paths" (defScope (top 25)) s.heap.objs.size fa cdv) (cxOf (L2.CX P w) P w K mg base ["shape", "path", "found", "way"] "_law_paths" (defScope (top 25)) fa cdv A outer s H E).xe)
    (tk : Takes (cxOf (L2.CX P w) P w K mg base ["shape", "path", "found", "way"] "_law_paths" (defScope (top 25)) fa cdv A outer s H E) (WD E)) :
    GSs (cxOf (L2.CX P w) P w K mg base ["shape", "path", "found", "way"] "_law_paths" (defScope (top 25)) fa cdv A outer s H E) (WD E) (defBody (top 25)) (b__law_paths Γ) := by
  have nd : (["shape", "path", "found", "way"] : List Str).Nodup := s__law_paths.nd
  have hu : (cxOf (L2.CX P w) P w K mg base ["shape", "path", "found", "way"] "_law_paths" (defScope (top 25)) fa cdv A outer s H E).A.units + 200 < cLine := by
    have := hr.un
    show (A.deeper (envOfC "_law_paths" (defScope (top 25)) s.heap.objs.size fa cdv)).units + 200 < cLine
    omega
  have hu1 : (cxOf (L2.CX P w) P w K mg base ["shape", "path", "found", "way"] "_law_paths" (defScope (top 25)) fa cdv A outer s H E).A.units + 1 < cLine := by omega
  exact (gs_cons (gs_if (gt_cmp (og_eq hu) (ge_var 0) (ge_tup ga_nil)) (gs_cons (gs_ret (ge_lst ga_nil))
    gs_nil) gs_nil)
    (gs_cons (gs_set 2 (ge_lst (ga_cons (ge_var 1) ga_nil)) nd)
    (gs_cons (gs_for hp rfl (gi_range1 (ge_bin og_sub (ge_len (ge_var 0) fc.f_len) ge_int) fc.f_range) (gg_name 3 nd) (gs_cons (gs_set 2 (ge_bin og_add (ge_var 2) (ge_fn (F 16 _ _ rfl) (hr.mono (Nat.le_succ _)) tk (gan_cons (ge_ix hu1 (ge_var 0) (ge_bin og_add (ge_var 3) ge_int)) (gan_cons (ge_bin og_add (ge_var 1) (ge_tup (ga_cons (ge_var 3) ga_nil))) gan_nil)))) nd)
    gs_nil))
    (gs_cons (gs_ret (ge_var 2))
    gs_nil))))
theorem k__law_paths {fd : FuncData} (F : AllK P w K mg base sig k Γ) (M : AllM P w K mg base msig 27 k Γ) (fc : Fc K mg) (U : FnP K "_law_paths" 25 fd) : FnOk P w K mg base (L2.CX P w) (k + 2) (He.ga K "_law_paths") fd ["shape", "path"] (spG K (d__law_paths Γ) 2) :=
  fn_G (k := k + 1) U s__law_paths (fun args h _ => .inl rfl) fun cdv A outer s H E hr hp tk => w__law_paths F M fc hr hp tk
theorem s__law_part : FnScope ["shape", "path", "way"] ["shape", "path"] (defScope (top 26)) := ⟨rfl, rfl, rfl, by decide +kernel, rfl, by decide +kernel, by decide +kernel⟩
theorem w__law_part (F : AllK P w K mg base sig k Γ) (M : AllM P w K mg base msig 27 k Γ) (fc : Fc K mg) {fa : Addr} {cdv : Value} {A : Around} {outer : List PySem.Env} {s : Shared} {H : Hp} {E : XK} (hr : Room (k + 1) (A.deeper (envOfC "_law_part" (defScope (top 26)) s.heap.objs.size fa cdv)))
    (hp : PassesOwn (model P w) (A.deeper (envOfC "_law_part" (defScope (top 26)) s.heap.objs.size fa cdv)) (envOfC "_law_part" (defScope (top 26)) s.heap.objs.size fa cdv) (cxOf (L2.CX P w) P w K mg base ["shape", "path", "way"] "_law_part" (defScope (top 26)) fa cdv A outer s H E).xe)
    (tk : Takes (cxOf (L2.CX P w) P w K mg base ["shape", "path", "way"] "_law_part" (defScope (top 26)) fa cdv A outer s H E) (WD E)) :
    GSs (cxOf (L2.CX P w) P w K mg base ["shape", "path", "way"] "_law_part" (defScope (top 26)) fa cdv A outer s H E) (WD E) (defBody (top 26)) (b__law_part Γ) := by
  have nd : (["shape", "path", "way"] : List Str).Nodup := s__law_part.nd
  have hu : (cxOf (L2.CX P w) P w K mg base ["shape", "path", "way"] "_law_part" (defScope (top 26)) fa cdv A outer s H E).A.units + 200 < cLine := by
    have := hr.un
    show (A.deeper (envOfC "_law_part" (defScope (top 26)) s.heap.objs.size fa cdv)).units + 200 < cLine
    omega
  have hu1 : (cxOf (L2.CX P w) P w K mg base ["shape", "path", "way"] "_law_part" (defScope (top 26)) fa cdv A outer s H E).A.units + 1 < cLine := by omega
  exact (gs_cons (gs_for hp rfl (gi_seq (ge_var 1)) (gg_name 2 nd) (gs_cons (gs_set 0 (ge_ix hu1 (ge_var 0) (ge_bin og_add (ge_var 2) ge_int)) nd)
    gs_nil))
    (gs_cons (gs_ret (ge_var 0))
    gs_nil))
theorem k__law_part {fd : FuncData} (F : AllK P w K mg base sig k Γ) (M : AllM P w K mg base msig 27 k Γ) (fc : Fc K mg) (U : FnP K "_law_part" 26 fd) : FnOk P w K mg base (L2.CX P w) (k + 2) (He.ga K "_law_part") fd ["shape", "path"] (spG K (d__law_part Γ) 2) :=
  fn_G (k := k + 1) U s__law_part (fun args h _ => .inl rfl) fun cdv A outer s H E hr hp tk => w__law_part F M fc hr hp tk
theorem s__law_text : FnScope ["shape"] ["shape"] (defScope (top 27)) := ⟨rfl, rfl, rfl, by decide +kernel, rfl, by decide +kernel, by decide +kernel⟩
theorem w__law_text (F : AllK P w K mg base sig k Γ) (M : AllM P w K mg base msig 27 k Γ) (fc : Fc K mg) {fa : Addr} {cdv : Value} {A : Around} {outer : List PySem.Env} {s : Shared} {H : Hp} {E : XK} (hr : Room (k + 1) (A.deeper (envOfC "_law_text" (defScope (top 27)) s.heap.objs.size fa cdv)))
    (hp : PassesOwn (model P w) (A.deeper (envOfC "_law_text" (defScope (top 27)) s.heap.objs.size fa cdv)) (envOfC "_law_text" (defScope (top 27)) s.heap.objs.size fa cdv) (cxOf (L2.CX P w) P w K mg base ["shape"] "_law_text" (defScope (top 27)) fa cdv A outer s H E).xe)
    (tk : Takes (cxOf (L2.CX P w) P w K mg base ["shape"] "_law_text" (defScope (top 27)) fa cdv A outer s H E) (WD E)) :
    GSs (cxOf (L2.CX P w) P w K mg base ["shape"] "_law_text" (defScope (top 27)) fa cdv A outer s H E) (WD E) (defBody (top 27)) (b__law_text Γ) := by
  have nd : (["shape"] : List Str).Nodup := s__law_text.nd
  have hu : (cxOf (L2.CX P w) P w K mg base ["shape"] "_law_text" (defScope (top 27)) fa cdv A outer s H E).A.units + 200 < cLine := by
    have := hr.un
    show (A.deeper (envOfC "_law_text" (defScope (top 27)) s.heap.objs.size fa cdv)).units + 200 < cLine
    omega
  have hu1 : (cxOf (L2.CX P w) P w K mg base ["shape"] "_law_text" (defScope (top 27)) fa cdv A outer s H E).A.units + 1 < cLine := by omega
  exact (gs_cons (gs_if (gt_cmp (og_eq hu) (ge_var 0) (ge_tup ga_nil)) (gs_cons (gs_ret (ge_str [46]))
    gs_nil) gs_nil)
    (gs_cons (gs_if (gt_cmp (og_eq hu) (ge_len (ge_var 0) fc.f_len) ge_int) (gs_cons (gs_ret (ge_bin og_add (ge_ix hu1 (ge_var 0) ge_int) (ge_fn (F 18 _ _ rfl) (hr.mono (Nat.le_succ _)) tk (gan_cons (ge_ix hu1 (ge_var 0) ge_int) gan_nil))))
    gs_nil) gs_nil)
    (gs_cons (gs_ret (ge_bin og_add (ge_bin og_add (ge_bin og_add (ge_bin og_add (ge_bin og_add (ge_ix hu1 (ge_var 0) ge_int) (ge_str [40])) (ge_fn (F 18 _ _ rfl) (hr.mono (Nat.le_succ _)) tk (gan_cons (ge_ix hu1 (ge_var 0) ge_int) gan_nil))) (ge_str [44])) (ge_fn (F 18 _ _ rfl) (hr.mono (Nat.le_succ _)) tk (gan_cons (ge_ix hu1 (ge_var 0) ge_int) gan_nil))) (ge_str [41])))
    gs_nil)))
theorem k__law_text {fd : FuncData} (F : AllK P w K mg base sig k Γ) (M : AllM P w K mg base msig 27 k Γ) (fc : Fc K mg) (U : FnP K "_law_text" 27 fd) : FnOk P w K mg base (L2.CX P w) (k + 2) (He.ga K "_law_text") fd ["shape"] (spG K (d__law_text Γ) 1) :=
  fn_G (k := k + 1) U s__law_text (fun args h _ => .inl rfl) fun cdv A outer s H E hr hp tk => w__law_text F M fc hr hp tk
theorem s__law_read : FnScope ["kind", "text", "found", "e"] ["kind", "text"] (defScope (top 28)) := ⟨rfl, rfl, rfl, by decide +kernel, rfl, by decide +kernel, by decide +kernel⟩
theorem w__law_read (F : AllK P w K mg base sig k Γ) (M : AllM P w K mg base msig 27 k Γ) (fc : Fc K mg) {fa : Addr} {cdv : Value} {A : Around} {outer : List PySem.Env} {s : Shared} {H : Hp} {E : XK} (hr : Room (k + 1) (A.deeper (envOfC "_law_read" (defScope (top 28)) s.heap.objs.size fa cdv)))
    (hp : PassesOwn (model P w) (A.deeper (envOfC "_law_read" (defScope (top 28)) s.heap.objs.size fa cdv)) (envOfC "_law_read" (defScope (top 28)) s.heap.objs.size fa cdv) (cxOf (L2.CX P w) P w K mg base ["kind", "text", "found", "e"] "_law_read" (defScope (top 28)) fa cdv A outer s H E).xe)
    (tk : Takes (cxOf (L2.CX P w) P w K mg base ["kind", "text", "found", "e"] "_law_read" (defScope (top 28)) fa cdv A outer s H E) (WD E)) :
    GSs (cxOf (L2.CX P w) P w K mg base ["kind", "text", "found", "e"] "_law_read" (defScope (top 28)) fa cdv A outer s H E) (WD E) (defBody (top 28)) (b__law_read Γ) := by
  have nd : (["kind", "text", "found", "e"] : List Str).Nodup := s__law_read.nd
  have hu : (cxOf (L2.CX P w) P w K mg base ["kind", "text", "found", "e"] "_law_read" (defScope (top 28)) fa cdv A outer s H E).A.units + 200 < cLine := by
    have := hr.un
    show (A.deeper (envOfC "_law_read" (defScope (top 28)) s.heap.objs.size fa cdv)).units + 200 < cLine
    omega
  have hu1 : (cxOf (L2.CX P w) P w K mg base ["kind", "text", "found", "e"] "_law_read" (defScope (top 28)) fa cdv A outer s H E).A.units + 1 < cLine := by omega
  exact (gs_cons (gs_tryIs (i := 3) (nm := "e") (x := "InvalidShape") (y := "SayError") [73, 110, 118, 97, 108, 105, 100, 83, 104, 97, 112, 101] true [110, 111, 110, 101] [119, 114, 111, 110, 103] (by rfl) (by rfl) nd (by rfl) (by rfl) ⟨(by rfl), by decide +kernel, .inl fc.e_InvalidShape.2.2.2.2⟩ tk (fc.m_InvalidShape ([73, 110, 118, 97, 108, 105, 100, 83, 104, 97, 112, 101], true) (by decide)) fc.x_InvalidShape.1 fc.x_InvalidShape.2.1 fc.x_InvalidShape.2.2 ⟨_, rfl⟩ fc.f_isinstance (by rfl) (by rfl) (fun _ _ _ tk hp => (gs_cons (gs_set 2 (ge_fn (F 8 _ _ rfl) (hr.mono (Nat.le_succ _)) tk (gan_cons (ge_var 0) (gan_cons (ge_var 1) gan_nil))) nd)
    (gs_cons (gs_ret (ge_if (gt_tru (ge_isi .str (ge_var 2) fc.f_isinstance fc.f_str)) ge_int (ge_var 2)))
    gs_nil))))
    gs_nil)
theorem k__law_read {fd : FuncData} (F : AllK P w K mg base sig k Γ) (M : AllM P w K mg base msig 27 k Γ) (fc : Fc K mg) (U : FnP K "_law_read" 28 fd) : FnOk P w K mg base (L2.CX P w) (k + 2) (He.ga K "_law_read") fd ["kind", "text"] (spG K (d__law_read Γ) 2) :=
  fn_G (k := k + 1) U s__law_read (fun args h _ => .inl rfl) fun cdv A outer s H E hr hp tk => w__law_read F M fc hr hp tk
theorem s__law_try_part : FnScope ["shape", "path", "found"] ["shape", "path"] (defScope (top 29)) := ⟨rfl, rfl, rfl, by decide +kernel, rfl, by decide +kernel, by decide +kernel⟩
theorem w__law_try_part (F : AllK P w K mg base sig k Γ) (M : AllM P w K mg base msig 27 k Γ) (fc : Fc K mg) {fa : Addr} {cdv : Value} {A : Around} {outer : List PySem.Env} {s : Shared} {H : Hp} {E : XK} (hr : Room (k + 1) (A.deeper (envOfC "_law_try_part" (defScope (top 29)) s.heap.objs.size fa cdv)))
    (hp : PassesOwn (model P w) (A.deeper (envOfC "_law_try_part" (defScope (top 29)) s.heap.objs.size fa cdv)) (envOfC "_law_try_part" (defScope (top 29)) s.heap.objs.size fa cdv) (cxOf (L2.CX P w) P w K mg base ["shape", "path", "found"] "_law_try_part" (defScope (top 29)) fa cdv A outer s H E).xe)
    (tk : Takes (cxOf (L2.CX P w) P w K mg base ["shape", "path", "found"] "_law_try_part" (defScope (top 29)) fa cdv A outer s H E) (WD E)) :
    GSs (cxOf (L2.CX P w) P w K mg base ["shape", "path", "found"] "_law_try_part" (defScope (top 29)) fa cdv A outer s H E) (WD E) (defBody (top 29)) (b__law_try_part Γ) := by
  have nd : (["shape", "path", "found"] : List Str).Nodup := s__law_try_part.nd
  have hu : (cxOf (L2.CX P w) P w K mg base ["shape", "path", "found"] "_law_try_part" (defScope (top 29)) fa cdv A outer s H E).A.units + 200 < cLine := by
    have := hr.un
    show (A.deeper (envOfC "_law_try_part" (defScope (top 29)) s.heap.objs.size fa cdv)).units + 200 < cLine
    omega
  have hu1 : (cxOf (L2.CX P w) P w K mg base ["shape", "path", "found"] "_law_try_part" (defScope (top 29)) fa cdv A outer s H E).A.units + 1 < cLine := by omega
  exact (gs_cons (gs_try [([83, 97, 121, 69, 114, 114, 111, 114], false), ([73, 110, 118, 97, 108, 105, 100, 75, 105, 110, 100], false), ([73, 110, 118, 97, 108, 105, 100, 83, 104, 97, 112, 101], false), ([78, 111, 83, 117, 99, 104, 69, 108, 101, 109, 101, 110, 116], true)] rfl rfl ⟨rfl, by decide +kernel, .inl fc.e_NoSuchElement.2.2.2.2⟩ tk fc.m_NoSuchElement (fun _ _ _ tk hp => (gs_cons (gs_set 2 (ge_fn (F 5 _ _ rfl) (hr.mono (Nat.le_succ _)) tk (gan_cons (ge_var 0) (gan_cons (ge_var 1) gan_nil))) nd)
    (gs_cons (gs_ret (ge_if (gt_tru (ge_isi .str (ge_var 2) fc.f_isinstance fc.f_str)) ge_int (ge_var 2)))
    gs_nil))) (fun _ _ => (gs_cons (gs_ret (ge_str [110, 111, 110, 101]))
    gs_nil)))
    gs_nil)
theorem k__law_try_part {fd : FuncData} (F : AllK P w K mg base sig k Γ) (M : AllM P w K mg base msig 27 k Γ) (fc : Fc K mg) (U : FnP K "_law_try_part" 29 fd) : FnOk P w K mg base (L2.CX P w) (k + 2) (He.ga K "_law_try_part") fd ["shape", "path"] (spG K (d__law_try_part Γ) 2) :=
  fn_G (k := k + 1) U s__law_try_part (fun args h _ => .inl rfl) fun cdv A outer s H E hr hp tk => w__law_try_part F M fc hr hp tk
theorem s__law_try_with : FnScope ["shape", "path", "new", "found"] ["shape", "path", "new"] (defScope (top 30)) := ⟨rfl, rfl, rfl, by decide +kernel, rfl, by decide +kernel, by decide +kernel⟩
theorem w__law_try_with (F : AllK P w K mg base sig k Γ) (M : AllM P w K mg base msig 27 k Γ) (fc : Fc K mg) {fa : Addr} {cdv : Value} {A : Around} {outer : List PySem.Env} {s : Shared} {H : Hp} {E : XK} (hr : Room (k + 1) (A.deeper (envOfC "_law_try_with" (defScope (top 30)) s.heap.objs.size fa cdv)))
    (hp : PassesOwn (model P w) (A.deeper (envOfC "_law_try_with" (defScope (top 30)) s.heap.objs.size fa cdv)) (envOfC "_law_try_with" (defScope (top 30)) s.heap.objs.size fa cdv) (cxOf (L2.CX P w) P w K mg base ["shape", "path", "new", "found"] "_law_try_with" (defScope (top 30)) fa cdv A outer s H E).xe)
    (tk : Takes (cxOf (L2.CX P w) P w K mg base ["shape", "path", "new", "found"] "_law_try_with" (defScope (top 30)) fa cdv A outer s H E) (WD E)) :
    GSs (cxOf (L2.CX P w) P w K mg base ["shape", "path", "new", "found"] "_law_try_with" (defScope (top 30)) fa cdv A outer s H E) (WD E) (defBody (top 30)) (b__law_try_with Γ) := by
  have nd : (["shape", "path", "new", "found"] : List Str).Nodup := s__law_try_with.nd
  have hu : (cxOf (L2.CX P w) P w K mg base ["shape", "path", "new", "found"] "_law_try_with" (defScope (top 30)) fa cdv A outer s H E).A.units + 200 < cLine := by
    have := hr.un
    show (A.deeper (envOfC "_law_try_with" (defScope (top 30)) s.heap.objs.size fa cdv)).units + 200 < cLine
    omega
  have hu1 : (cxOf (L2.CX P w) P w K mg base ["shape", "path", "new", "found"] "_law_try_with" (defScope (top 30)) fa cdv A outer s H E).A.units + 1 < cLine := by omega
  exact (gs_cons (gs_try [([83, 97, 121, 69, 114, 114, 111, 114], false), ([73, 110, 118, 97, 108, 105, 100, 75, 105, 110, 100], false), ([73, 110, 118, 97, 108, 105, 100, 83, 104, 97, 112, 101], false), ([78, 111, 83, 117, 99, 104, 69, 108, 101, 109, 101, 110, 116], true)] rfl rfl ⟨rfl, by decide +kernel, .inl fc.e_NoSuchElement.2.2.2.2⟩ tk fc.m_NoSuchElement (fun _ _ _ tk hp => (gs_cons (gs_set 3 (ge_fn (F 6 _ _ rfl) (hr.mono (Nat.le_succ _)) tk (gan_cons (ge_var 0) (gan_cons (ge_var 1) (gan_cons (ge_var 2) gan_nil)))) nd)
    (gs_cons (gs_ret (ge_if (gt_tru (ge_isi .str (ge_var 3) fc.f_isinstance fc.f_str)) ge_int (ge_var 3)))
    gs_nil))) (fun _ _ => (gs_cons (gs_ret (ge_str [110, 111, 110, 101]))
    gs_nil)))
    gs_nil)
theorem k__law_try_with {fd : FuncData} (F : AllK P w K mg base sig k Γ) (M : AllM P w K mg base msig 27 k Γ) (fc : Fc K mg) (U : FnP K "_law_try_with" 30 fd) : FnOk P w K mg base (L2.CX P w) (k + 2) (He.ga K "_law_try_with") fd ["shape", "path", "new"] (spG K (d__law_try_with Γ) 3) :=
  fn_G (k := k + 1) U s__law_try_with (fun args h _ => .inl rfl) fun cdv A outer s H E hr hp tk => w__law_try_with F M fc hr hp tk
theorem s__law_with : FnScope ["shape", "path", "new", "way"] ["shape", "path", "new"] (defScope (top 31)) := ⟨rfl, rfl, rfl, by decide +kernel, rfl, by decide +kernel, by decide +kernel⟩
theorem w__law_with (F : AllK P w K mg base sig k Γ) (M : AllM P w K mg base msig 27 k Γ) (fc : Fc K mg) {fa : Addr} {cdv : Value} {A : Around} {outer : List PySem.Env} {s : Shared} {H : Hp} {E : XK} (hr : Room (k + 1) (A.deeper (envOfC "_law_with" (defScope (top 31)) s.heap.objs.size fa cdv)))
    (hp : PassesOwn (model P w) (A.deeper (envOfC "_law_with" (defScope (top 31)) s.heap.objs.size fa cdv)) (envOfC "_law_with" (defScope (top 31)) s.heap.objs.size fa cdv) (cxOf (L2.CX P w) P w K mg base ["shape", "path", "new", "way"] "_law_with" (defScope (top 31)) fa cdv A outer s H E).xe)
    (tk : Takes (cxOf (L2.CX P w) P w K mg base ["shape", "path", "new", "way"] "_law_with" (defScope (top 31)) fa cdv A outer s H E) (WD E)) :
    GSs (cxOf (L2.CX P w) P w K mg base ["shape", "path", "new", "way"] "_law_with" (defScope (top 31)) fa cdv A outer s H E) (WD E) (defBody (top 31)) (b__law_with Γ) := by
  have nd : (["shape", "path", "new", "way"] : List Str).Nodup := s__law_with.nd
  have hu : (cxOf (L2.CX P w) P w K mg base ["shape", "path", "new", "way"] "_law_with" (defScope (top 31)) fa cdv A outer s H E).A.units + 200 < cLine := by
    have := hr.un
    show (A.deeper (envOfC "_law_with" (defScope (top 31)) s.heap.objs.size fa cdv)).units + 200 < cLine
    omega
  have hu1 : (cxOf (L2.CX P w) P w K mg base ["shape", "path", "new", "way"] "_law_with" (defScope (top 31)) fa cdv A outer s H E).A.units + 1 < cLine := by omega
  exact (gs_cons (gs_if (gt_cmp (og_eq hu) (ge_var 1) (ge_tup ga_nil)) (gs_cons (gs_ret (ge_var 2))
    gs_nil) gs_nil)
    (gs_cons (gs_set 3 (ge_ix hu1 (ge_var 1) ge_int) nd)
    (gs_cons (gs_ret (ge_bin og_add (ge_bin og_add (ge_cut (ge_var 0) go_none (go_some (ge_bin og_add (ge_var 3) ge_int))) (ge_tup (ga_cons (ge_fn (F 22 _ _ rfl) (hr.mono (Nat.le_succ _)) tk (gan_cons (ge_ix hu1 (ge_var 0) (ge_bin og_add (ge_var 3) ge_int)) (gan_cons (ge_cut (ge_var 1) (go_some ge_int) go_none) (gan_cons (ge_var 2) gan_nil)))) ga_nil))) (ge_cut (ge_var 0) (go_some (ge_bin og_add (ge_var 3) ge_int)) go_none)))
    gs_nil)))
theorem k__law_with {fd : FuncData} (F : AllK P w K mg base sig k Γ) (M : AllM P w K mg base msig 27 k Γ) (fc : Fc K mg) (U : FnP K "_law_with" 31 fd) : FnOk P w K mg base (L2.CX P w) (k + 2) (He.ga K "_law_with") fd ["shape", "path", "new"] (spG K (d__law_with Γ) 3) :=
  fn_G (k := k + 1) U s__law_with (fun args h _ => .inl rfl) fun cdv A outer s H E hr hp tk => w__law_with F M fc hr hp tk
theorem s__law_bent : FnScope ["tape", "text", "k", "more"] ["tape", "text"] (defScope (top 32)) := ⟨rfl, rfl, rfl, by decide +kernel, rfl, by decide +kernel, by decide +kernel⟩
theorem w__law_bent (F : AllK P w K mg base sig k Γ) (M : AllM P w K mg base msig 27 k Γ) (fc : Fc K mg) {fa : Addr} {cdv : Value} {A : Around} {outer : List PySem.Env} {s : Shared} {H : Hp} {E : XK} (hr : Room (k + 1) (A.deeper (envOfC "_law_bent" (defScope (top 32)) s.heap.objs.size fa cdv)))
    (hp : PassesOwn (model P w) (A.deeper (envOfC "_law_bent" (defScope (top 32)) s.heap.objs.size fa cdv)) (envOfC "_law_bent" (defScope (top 32)) s.heap.objs.size fa cdv) (cxOf (L2.CX P w) P w K mg base ["tape", "text", "k", "more"] "_law_bent" (defScope (top 32)) fa cdv A outer s H E).xe)
    (tk : Takes (cxOf (L2.CX P w) P w K mg base ["tape", "text", "k", "more"] "_law_bent" (defScope (top 32)) fa cdv A outer s H E) (WD E)) :
    GSs (cxOf (L2.CX P w) P w K mg base ["tape", "text", "k", "more"] "_law_bent" (defScope (top 32)) fa cdv A outer s H E) (WD E) (defBody (top 32)) (b__law_bent Γ) := by
  have nd : (["tape", "text", "k", "more"] : List Str).Nodup := s__law_bent.nd
  have hu : (cxOf (L2.CX P w) P w K mg base ["tape", "text", "k", "more"] "_law_bent" (defScope (top 32)) fa cdv A outer s H E).A.units + 200 < cLine := by
    have := hr.un
    show (A.deeper (envOfC "_law_bent" (defScope (top 32)) s.heap.objs.size fa cdv)).units + 200 < cLine
    omega
  have hu1 : (cxOf (L2.CX P w) P w K mg base ["tape", "text", "k", "more"] "_law_bent" (defScope (top 32)) fa cdv A outer s H E).A.units + 1 < cLine := by omega
  exact (gs_cons (gs_set 2 (ge_fn (F 10 _ _ rfl) (hr.mono (Nat.le_succ _)) tk (gan_cons (ge_var 0) (gan_cons (ge_bin og_add (ge_len (ge_var 1) fc.f_len) ge_int) gan_nil))) nd)
    (gs_cons (gs_set 3 (ge_ix hu1 (ge_lst (ga_cons (ge_str []) (ga_cons (ge_str [97]) (ga_cons (ge_str [46]) (ga_cons (ge_str [40]) (ga_cons (ge_str [44]) (ga_cons (ge_str [41]) (ga_cons (ge_str [98]) (ga_cons (ge_str [113]) ga_nil))))))))) (ge_fn (F 10 _ _ rfl) (hr.mono (Nat.le_succ _)) tk (gan_cons (ge_var 0) (gan_cons ge_int gan_nil)))) nd)
    (gs_cons (gs_ret (ge_bin og_add (ge_bin og_add (ge_cut (ge_var 1) go_none (go_some (ge_var 2))) (ge_var 3)) (ge_cut (ge_var 1) (go_some (ge_bin og_add (ge_var 2) (ge_fn (F 10 _ _ rfl) (hr.mono (Nat.le_succ _)) tk (gan_cons (ge_var 0) (gan_cons ge_int gan_nil))))) go_none)))
    gs_nil)))
theorem k__law_bent {fd : FuncData} (F : AllK P w K mg base sig k Γ) (M : AllM P w K mg base msig 27 k Γ) (fc : Fc K mg) (U : FnP K "_law_bent" 32 fd) : FnOk P w K mg base (L2.CX P w) (k + 2) (He.ga K "_law_bent") fd ["tape", "text"] (spG K (d__law_bent Γ) 2) :=
  fn_G (k := k + 1) U s__law_bent (fun args h _ => .inl rfl) fun cdv A outer s H E hr hp tk => w__law_bent F M fc hr hp tk
theorem s__law_is : FnScope ["kind", "value", "one"] ["kind", "value"] (defScope (top 33)) := ⟨rfl, rfl, rfl, by decide +kernel, rfl, by decide +kernel, by decide +kernel⟩
theorem w__law_is (F : AllK P w K mg base sig k Γ) (M : AllM P w K mg base msig 27 k Γ) (fc : Fc K mg) {fa : Addr} {cdv : Value} {A : Around} {outer : List PySem.Env} {s : Shared} {H : Hp} {E : XK} (hr : Room (k + 1) (A.deeper (envOfC "_law_is" (defScope (top 33)) s.heap.objs.size fa cdv)))
    (hp : PassesOwn (model P w) (A.deeper (envOfC "_law_is" (defScope (top 33)) s.heap.objs.size fa cdv)) (envOfC "_law_is" (defScope (top 33)) s.heap.objs.size fa cdv) (cxOf (L2.CX P w) P w K mg base ["kind", "value", "one"] "_law_is" (defScope (top 33)) fa cdv A outer s H E).xe)
    (tk : Takes (cxOf (L2.CX P w) P w K mg base ["kind", "value", "one"] "_law_is" (defScope (top 33)) fa cdv A outer s H E) (WD E)) :
    GSs (cxOf (L2.CX P w) P w K mg base ["kind", "value", "one"] "_law_is" (defScope (top 33)) fa cdv A outer s H E) (WD E) (defBody (top 33)) (b__law_is Γ) := by
  have nd : (["kind", "value", "one"] : List Str).Nodup := s__law_is.nd
  have hu : (cxOf (L2.CX P w) P w K mg base ["kind", "value", "one"] "_law_is" (defScope (top 33)) fa cdv A outer s H E).A.units + 200 < cLine := by
    have := hr.un
    show (A.deeper (envOfC "_law_is" (defScope (top 33)) s.heap.objs.size fa cdv)).units + 200 < cLine
    omega
  have hu1 : (cxOf (L2.CX P w) P w K mg base ["kind", "value", "one"] "_law_is" (defScope (top 33)) fa cdv A outer s H E).A.units + 1 < cLine := by omega
  exact (gs_cons (gs_if (gt_cmp (og_eq hu) (ge_var 1) (ge_tup ga_nil)) (gs_cons (gs_ret ge_bl)
    gs_nil) gs_nil)
    (gs_cons (gs_if (GW.pt (gw_or (gt_not (gt_tru (ge_isi .tuple (ge_var 1) fc.f_isinstance fc.f_tuple))) (gw_or (gt_cmp (og_ne hu) (ge_len (ge_var 1) fc.f_len) (ge_bin og_add (ge_ix hu1 (ge_var 0) ge_int) ge_int)) (gw_or1 (gt_cmp (og_notIn hu) (ge_ix hu1 (ge_var 1) ge_int) (ge_ix hu1 (ge_var 0) ge_int)))))) (gs_cons (gs_ret ge_bl)
    gs_nil) gs_nil)
    (gs_cons (gs_ret (ge_cmp (og_eq hu) (ge_lc fin_frozen [("one", 2)] rfl nd (gi_seq (ge_cut (ge_var 1) (go_some ge_int) go_none)) (fun _ _ _ _ _ => (gc_name 2 nd)) (fun _ _ _ _ _ => (gts_one (gt_not (gt_tru (ge_fn (F 24 _ _ rfl) (hr.mono (Nat.le_succ _)) GH.takes0 (gan_cons (ge_var 0) (gan_cons (ge_var 2) gan_nil))))))) (fun _ _ _ _ _ => (ge_var 2))) (ge_lst ga_nil)))
    gs_nil)))
theorem k__law_is {fd : FuncData} (F : AllK P w K mg base sig k Γ) (M : AllM P w K mg base msig 27 k Γ) (fc : Fc K mg) (U : FnP K "_law_is" 33 fd) : FnOk P w K mg base (L2.CX P w) (k + 2) (He.ga K "_law_is") fd ["kind", "value"] (spG K (d__law_is Γ) 2) :=
  fn_G (k := k + 1) U s__law_is (fun args h _ => .inl rfl) fun cdv A outer s H E hr hp tk => w__law_is F M fc hr hp tk
theorem s__law_kind_right : FnScope ["kind"] ["kind"] (defScope (top 34)) := ⟨rfl, rfl, rfl, by decide +kernel, rfl, by decide +kernel, by decide +kernel⟩
theorem w__law_kind_right (F : AllK P w K mg base sig k Γ) (M : AllM P w K mg base msig 27 k Γ) (fc : Fc K mg) {fa : Addr} {cdv : Value} {A : Around} {outer : List PySem.Env} {s : Shared} {H : Hp} {E : XK} (hr : Room (k + 1) (A.deeper (envOfC "_law_kind_right" (defScope (top 34)) s.heap.objs.size fa cdv)))
    (hp : PassesOwn (model P w) (A.deeper (envOfC "_law_kind_right" (defScope (top 34)) s.heap.objs.size fa cdv)) (envOfC "_law_kind_right" (defScope (top 34)) s.heap.objs.size fa cdv) (cxOf (L2.CX P w) P w K mg base ["kind"] "_law_kind_right" (defScope (top 34)) fa cdv A outer s H E).xe)
    (tk : Takes (cxOf (L2.CX P w) P w K mg base ["kind"] "_law_kind_right" (defScope (top 34)) fa cdv A outer s H E) (WD E)) :
    GSs (cxOf (L2.CX P w) P w K mg base ["kind"] "_law_kind_right" (defScope (top 34)) fa cdv A outer s H E) (WD E) (defBody (top 34)) (b__law_kind_right Γ) := by
  have nd : (["kind"] : List Str).Nodup := s__law_kind_right.nd
  have hu : (cxOf (L2.CX P w) P w K mg base ["kind"] "_law_kind_right" (defScope (top 34)) fa cdv A outer s H E).A.units + 200 < cLine := by
    have := hr.un
    show (A.deeper (envOfC "_law_kind_right" (defScope (top 34)) s.heap.objs.size fa cdv)).units + 200 < cLine
    omega
  have hu1 : (cxOf (L2.CX P w) P w K mg base ["kind"] "_law_kind_right" (defScope (top 34)) fa cdv A outer s H E).A.units + 1 < cLine := by omega
  exact (gs_cons (gs_try [([83, 97, 121, 69, 114, 114, 111, 114], false), ([73, 110, 118, 97, 108, 105, 100, 75, 105, 110, 100], true), ([73, 110, 118, 97, 108, 105, 100, 83, 104, 97, 112, 101], false), ([78, 111, 83, 117, 99, 104, 69, 108, 101, 109, 101, 110, 116], false)] rfl rfl ⟨rfl, by decide +kernel, .inl fc.e_InvalidKind.2.2.2.2⟩ tk fc.m_InvalidKind (fun _ _ _ tk hp => (gs_cons (gs_expr (ge_fn (F 0 _ _ rfl) (hr.mono (Nat.le_succ _)) tk (gan_cons (ge_var 0) gan_nil)))
    gs_nil)) (fun _ _ => (gs_cons (gs_ret ge_bl)
    gs_nil)))
    (gs_cons (gs_ret ge_bl)
    gs_nil))
theorem k__law_kind_right {fd : FuncData} (F : AllK P w K mg base sig k Γ) (M : AllM P w K mg base msig 27 k Γ) (fc : Fc K mg) (U : FnP K "_law_kind_right" 34 fd) : FnOk P w K mg base (L2.CX P w) (k + 2) (He.ga K "_law_kind_right") fd ["kind"] (spG K (d__law_kind_right Γ) 1) :=
  fn_G (k := k + 1) U s__law_kind_right (fun args h _ => .inl rfl) fun cdv A outer s H E hr hp tk => w__law_kind_right F M fc hr hp tk
theorem s_law : FnScope ["script", "tape", "kind", "shape", "listed", "text", "found", "path", "expected", "new", "reach", "other", "wrong", "k"] ["script"] (defScope (top 35)) := ⟨rfl, rfl, rfl, by decide +kernel, rfl, by decide +kernel, by decide +kernel⟩
theorem w_law (F : AllK P w K mg base sig k Γ) (M : AllM P w K mg base msig 27 k Γ) (fc : Fc K mg) {fa : Addr} {cdv : Value} {A : Around} {outer : List PySem.Env} {s : Shared} {H : Hp} {E : XK} (hr : Room (k + 1) (A.deeper (envOfC "law" (defScope (top 35)) s.heap.objs.size fa cdv)))
    (hp : PassesOwn (model P w) (A.deeper (envOfC "law" (defScope (top 35)) s.heap.objs.size fa cdv)) (envOfC "law" (defScope (top 35)) s.heap.objs.size fa cdv) (cxOf (L2.CX P w) P w K mg base ["script", "tape", "kind", "shape", "listed", "text", "found", "path", "expected", "new", "reach", "other", "wrong", "k"] "law" (defScope (top 35)) fa cdv A outer s H E).xe)
    (tk : Takes (cxOf (L2.CX P w) P w K mg base ["script", "tape", "kind", "shape", "listed", "text", "found", "path", "expected", "new", "reach", "other", "wrong", "k"] "law" (defScope (top 35)) fa cdv A outer s H E) (WD E)) :
    GSs (cxOf (L2.CX P w) P w K mg base ["script", "tape", "kind", "shape", "listed", "text", "found", "path", "expected", "new", "reach", "other", "wrong", "k"] "law" (defScope (top 35)) fa cdv A outer s H E) (WD E) (defBody (top 35)) (b_law Γ) := by
  have nd : (["script", "tape", "kind", "shape", "listed", "text", "found", "path", "expected", "new", "reach", "other", "wrong", "k"] : List Str).Nodup := s_law.nd
  have hu : (cxOf (L2.CX P w) P w K mg base ["script", "tape", "kind", "shape", "listed", "text", "found", "path", "expected", "new", "reach", "other", "wrong", "k"] "law" (defScope (top 35)) fa cdv A outer s H E).A.units + 200 < cLine := by
    have := hr.un
    show (A.deeper (envOfC "law" (defScope (top 35)) s.heap.objs.size fa cdv)).units + 200 < cLine
    omega
  have hu1 : (cxOf (L2.CX P w) P w K mg base ["script", "tape", "kind", "shape", "listed", "text", "found", "path", "expected", "new", "reach", "other", "wrong", "k"] "law" (defScope (top 35)) fa cdv A outer s H E).A.units + 1 < cLine := by omega
  exact (gs_cons (gs_set 1 (ge_fn (F 9 _ _ rfl) (hr.mono (Nat.le_succ _)) tk (gan_cons (ge_var 0) gan_nil)) nd)
    (gs_cons (gs_set 2 (ge_fn (F 14 _ _ rfl) (hr.mono (Nat.le_succ _)) tk (gan_cons (ge_var 1) gan_nil)) nd)
    (gs_cons (gs_set 3 (ge_fn (F 15 _ _ rfl) (hr.mono (Nat.le_succ _)) tk (gan_cons (ge_var 1) (gan_cons (ge_var 2) (gan_cons (ge_fn (F 10 _ _ rfl) (hr.mono (Nat.le_succ _)) tk (gan_cons (ge_var 1) (gan_cons ge_int gan_nil))) gan_nil)))) nd)
    (gs_cons (gs_set 4 (ge_b1 (c1_sorted hu) (ge_fn (F 16 _ _ rfl) (hr.mono (Nat.le_succ _)) tk (gan_cons (ge_var 3) (gan_cons (ge_tup ga_nil) gan_nil))) fc.f_sorted) nd)
    (gs_cons (gs_if (gt_not (gt_tru (ge_fn (F 13 _ _ rfl) (hr.mono (Nat.le_succ _)) tk (gan_cons (ge_lst (ga_cons (ge_fn (F 7 _ _ rfl) (hr.mono (Nat.le_succ _)) tk (gan_cons (ge_var 3) gan_nil)) (ga_cons (ge_fn (F 3 _ _ rfl) (hr.mono (Nat.le_succ _)) tk (gan_cons (ge_var 3) gan_nil)) (ga_cons (ge_fn (F 4 _ _ rfl) (hr.mono (Nat.le_succ _)) tk (gan_cons (ge_var 3) gan_nil)) ga_nil)))) (gan_cons (ge_lst (ga_cons (ge_fn (F 18 _ _ rfl) (hr.mono (Nat.le_succ _)) tk (gan_cons (ge_var 3) gan_nil)) (ga_cons (ge_len (ge_var 4) fc.f_len) (ga_cons (ge_var 4) ga_nil)))) gan_nil))))) (gs_cons (gs_ret ge_bl)
    gs_nil) gs_nil)
    (gs_cons (gs_if (gt_not (gt_tru (ge_fn (F 13 _ _ rfl) (hr.mono (Nat.le_succ _)) tk (gan_cons (ge_fn (F 8 _ _ rfl) (hr.mono (Nat.le_succ _)) tk (gan_cons (ge_var 2) (gan_cons (ge_fn (F 18 _ _ rfl) (hr.mono (Nat.le_succ _)) tk (gan_cons (ge_var 3) gan_nil)) gan_nil))) (gan_cons (ge_var 3) gan_nil))))) (gs_cons (gs_ret ge_bl)
    gs_nil) gs_nil)
    (gs_cons (gs_set 5 (ge_fn (F 23 _ _ rfl) (hr.mono (Nat.le_succ _)) tk (gan_cons (ge_var 1) (gan_cons (ge_fn (F 18 _ _ rfl) (hr.mono (Nat.le_succ _)) tk (gan_cons (ge_var 3) gan_nil)) gan_nil))) nd)
    (gs_cons (gs_set 6 (ge_fn (F 19 _ _ rfl) (hr.mono (Nat.le_succ _)) tk (gan_cons (ge_var 2) (gan_cons (ge_var 5) gan_nil))) nd)
    (gs_cons (gs_if (GW.pt (gw_and (gt_cmp (og_ne hu) (ge_var 6) (ge_str [110, 111, 110, 101])) (gw_and1 (GW.pt (gw_or (gt_not (gt_tru (ge_fn (F 24 _ _ rfl) (hr.mono (Nat.le_succ _)) tk (gan_cons (ge_var 2) (gan_cons (ge_var 6) gan_nil))))) (gw_or1 (gt_cmp (og_ne hu) (ge_fn (F 18 _ _ rfl) (hr.mono (Nat.le_succ _)) tk (gan_cons (ge_var 6) gan_nil)) (ge_var 5)))))))) (gs_cons (gs_ret ge_bl)
    gs_nil) gs_nil)
    (gs_cons (gs_if (GW.pt (gw_and (gt_cmp (og_eq hu) (ge_var 6) (ge_str [110, 111, 110, 101])) (gw_and1 (gt_cmp (og_eq hu) (ge_var 5) (ge_fn (F 18 _ _ rfl) (hr.mono (Nat.le_succ _)) tk (gan_cons (ge_var 3) gan_nil)))))) (gs_cons (gs_ret ge_bl)
    gs_nil) gs_nil)
    (gs_cons (gs_set 7 (ge_t1 c1_tuple (ge_lc fin_frozen [("k", 13)] rfl nd (gi_range1 (ge_fn (F 10 _ _ rfl) (hr.mono (Nat.le_succ _)) tk (gan_cons (ge_var 1) (gan_cons ge_int gan_nil))) fc.f_range) (fun _ _ _ _ _ => (gc_name 13 nd)) (fun _ _ _ _ _ => gts_nil) (fun _ _ _ _ _ => (ge_fn (F 10 _ _ rfl) (hr.mono (Nat.le_succ _)) GH.takes0 (gan_cons (ge_var 1) (gan_cons ge_int gan_nil))))) fc.f_tuple) nd)
    (gs_cons (gs_if (GW.pt (gw_and (gt_cmp (og_ne hu) (ge_var 4) (ge_lst ga_nil)) (gw_and1 (gt_cmp og_gt (ge_fn (F 10 _ _ rfl) (hr.mono (Nat.le_succ _)) tk (gan_cons (ge_var 1) (gan_cons ge_int gan_nil))) ge_int)))) (gs_cons (gs_set 7 (ge_bin og_add (ge_ix hu1 (ge_var 4) (ge_fn (F 10 _ _ rfl) (hr.mono (Nat.le_succ _)) tk (gan_cons (ge_var 1) (gan_cons (ge_len (ge_var 4) fc.f_len) gan_nil)))) (ge_ix hu1 (ge_tup (ga_cons (ge_tup (ga_cons ge_int ga_nil)) (ga_cons (ge_tup (ga_cons ge_int ga_nil)) (ga_cons (ge_tup ga_nil) ga_nil)))) (ge_fn (F 10 _ _ rfl) (hr.mono (Nat.le_succ _)) tk (gan_cons (ge_var 1) (gan_cons ge_int gan_nil))))) nd)
    gs_nil) gs_nil)
    (gs_cons (gs_set 8 (ge_if (gt_cmp (og_in hu) (ge_var 7) (ge_var 4)) (ge_fn (F 17 _ _ rfl) (hr.mono (Nat.le_succ _)) tk (gan_cons (ge_var 3) (gan_cons (ge_var 7) gan_nil))) (ge_str [110, 111, 110, 101])) nd)
    (gs_cons (gs_if (gt_not (gt_tru (ge_fn (F 13 _ _ rfl) (hr.mono (Nat.le_succ _)) tk (gan_cons (ge_fn (F 20 _ _ rfl) (hr.mono (Nat.le_succ _)) tk (gan_cons (ge_var 3) (gan_cons (ge_var 7) gan_nil))) (gan_cons (ge_var 8) gan_nil))))) (gs_cons (gs_ret ge_bl)
    gs_nil) gs_nil)
    (gs_cons (gs_set 9 (ge_fn (F 15 _ _ rfl) (hr.mono (Nat.le_succ _)) tk (gan_cons (ge_var 1) (gan_cons (ge_var 2) (gan_cons (ge_fn (F 10 _ _ rfl) (hr.mono (Nat.le_succ _)) tk (gan_cons (ge_var 1) (gan_cons ge_int gan_nil))) gan_nil)))) nd)
    (gs_cons (gs_set 10 (ge_or (ge_cmp (og_eq hu) (ge_var 7) (ge_tup ga_nil)) (ge_one (ge_and (ge_cmp (og_in hu) (ge_cut (ge_var 7) go_none (go_some (ge_neg ge_int))) (ge_var 4)) (ge_one (ge_cmp og_lt (ge_ix hu1 (ge_var 7) (ge_neg ge_int)) (ge_ix hu1 (ge_var 2) ge_int)))))) nd)
    (gs_cons (gs_if (gt_not (gt_tru (ge_fn (F 13 _ _ rfl) (hr.mono (Nat.le_succ _)) tk (gan_cons (ge_fn (F 21 _ _ rfl) (hr.mono (Nat.le_succ _)) tk (gan_cons (ge_var 3) (gan_cons (ge_var 7) (gan_cons (ge_var 9) gan_nil)))) (gan_cons (ge_if (gt_tru (ge_var 10)) (ge_fn (F 22 _ _ rfl) (hr.mono (Nat.le_succ _)) tk (gan_cons (ge_var 3) (gan_cons (ge_var 7) (gan_cons (ge_var 9) gan_nil)))) (ge_str [110, 111, 110, 101])) gan_nil))))) (gs_cons (gs_ret ge_bl)
    gs_nil) gs_nil)
    (gs_cons (gs_set 11 (ge_ix hu1 (ge_lst (ga_cons (ge_var 3) (ga_cons (ge_tup (ga_cons (ge_var 3) ga_nil)) (ga_cons (ge_bin og_add (ge_tup (ga_cons (ge_str [113]) ga_nil)) (ge_cut (ge_var 3) (go_some ge_int) go_none)) (ga_cons (ge_bin og_add (ge_var 3) (ge_tup (ga_cons (ge_tup ga_nil) ga_nil))) (ga_cons (ge_tup (ga_cons (ge_str [97]) (ga_cons (ge_var 3) ga_nil))) (ga_cons (ge_tup (ga_cons (ge_str [97]) (ga_cons (ge_str [98]) (ga_cons (ge_var 3) ga_nil)))) ga_nil))))))) (ge_fn (F 10 _ _ rfl) (hr.mono (Nat.le_succ _)) tk (gan_cons (ge_var 1) (gan_cons ge_int gan_nil)))) nd)
    (gs_cons (gs_if (gt_not (gt_tru (ge_fn (F 13 _ _ rfl) (hr.mono (Nat.le_succ _)) tk (gan_cons (ge_fn (F 1 _ _ rfl) (hr.mono (Nat.le_succ _)) tk (gan_cons (ge_var 2) (gan_cons (ge_var 11) gan_nil))) (gan_cons (ge_fn (F 24 _ _ rfl) (hr.mono (Nat.le_succ _)) tk (gan_cons (ge_var 2) (gan_cons (ge_var 11) gan_nil))) gan_nil))))) (gs_cons (gs_ret ge_bl)
    gs_nil) gs_nil)
    (gs_cons (gs_set 12 (ge_lstM (ga_cons (ge_tup (ga_cons ge_int (ga_cons (ge_tup (ga_cons (ge_str [97]) ga_nil)) ga_nil))) (ga_cons (ge_tup (ga_cons ge_int (ga_cons (ge_tup (ga_cons (ge_str [97]) ga_nil)) ga_nil))) (ga_cons (ge_tup (ga_cons ge_int (ga_cons (ge_tup ga_nil) ga_nil))) (ga_cons (ge_tup (ga_cons ge_int (ga_cons (ge_tup (ga_cons (ge_str [98]) (ga_cons (ge_str [97]) ga_nil))) ga_nil))) (ga_cons (ge_tup (ga_cons ge_int (ga_cons (ge_tup (ga_cons (ge_str [97]) (ga_cons (ge_str [97]) ga_nil))) ga_nil))) (ga_cons (ge_tup (ga_cons ge_int (ga_cons (ge_tup (ga_cons (ge_str [97, 98]) ga_nil)) ga_nil))) (ga_cons (ge_tup (ga_cons ge_int (ga_cons (ge_tup (ga_cons (ge_str [65]) ga_nil)) ga_nil))) ga_nil)))))))) nd)
    (gs_cons (gs_expr (ge_append (ge_var 12) (ge_tup (ga_cons ge_int (ga_cons (ge_tup (ga_cons (ge_str [97]) (ga_cons (ge_str [98]) (ga_cons (ge_str [99]) (ga_cons (ge_str [100]) ga_nil))))) ga_nil)))))
    (gs_cons (gs_ret (ge_and (ge_fn (F 25 _ _ rfl) (hr.mono (Nat.le_succ _)) tk (gan_cons (ge_var 2) gan_nil)) (ge_one (ge_not (ge_fn (F 25 _ _ rfl) (hr.mono (Nat.le_succ _)) tk (gan_cons (ge_ix hu1 (ge_var 12) (ge_fn (F 10 _ _ rfl) (hr.mono (Nat.le_succ _)) tk (gan_cons (ge_var 1) (gan_cons ge_int gan_nil)))) gan_nil))))))
    gs_nil))))))))))))))))))))))
theorem k_law {fd : FuncData} (F : AllK P w K mg base sig k Γ) (M : AllM P w K mg base msig 27 k Γ) (fc : Fc K mg) (U : FnP K "law" 35 fd) : FnOk P w K mg base (L2.CX P w) (k + 2) (He.ga K "law") fd ["script"] (spG K (d_law Γ) 1) :=
  fn_G (k := k + 1) U s_law (fun args h _ => .inl rfl) fun cdv A outer s H E hr hp tk => w_law F M fc hr hp tk
theorem s_ShapeReader_init : FnScope ["self", "kind", "text"] ["self", "kind", "text"] (defScope (mth 15 0)) := ⟨rfl, rfl, rfl, by decide +kernel, rfl, by decide +kernel, by decide +kernel⟩
theorem w_ShapeReader_init (F : AllK P w K mg base sig k Γ) (M : AllM P w K mg base msig 27 k Γ) (fc : Fc K mg) {fa : Addr} {cdv : Value} {A : Around} {outer : List PySem.Env} {s : Shared} {H : Hp} {E : XK} (hr : Room (k + 1) (A.deeper (envOfC "ShapeReader.__init__" (defScope (mth 15 0)) s.heap.objs.size fa cdv)))
    (hp : PassesOwn (model P w) (A.deeper (envOfC "ShapeReader.__init__" (defScope (mth 15 0)) s.heap.objs.size fa cdv)) (envOfC "ShapeReader.__init__" (defScope (mth 15 0)) s.heap.objs.size fa cdv) (cxOf (L2.CX P w) P w K mg base ["self", "kind", "text"] "ShapeReader.__init__" (defScope (mth 15 0)) fa cdv A outer s H E).xe)
    (tk : Takes (cxOf (L2.CX P w) P w K mg base ["self", "kind", "text"] "ShapeReader.__init__" (defScope (mth 15 0)) fa cdv A outer s H E) (WD E)) :
    GSs (cxOf (L2.CX P w) P w K mg base ["self", "kind", "text"] "ShapeReader.__init__" (defScope (mth 15 0)) fa cdv A outer s H E) (WD E) (defBody (mth 15 0)) (b_ShapeReader_init Γ) := by
  have nd : (["self", "kind", "text"] : List Str).Nodup := s_ShapeReader_init.nd
  have hu : (cxOf (L2.CX P w) P w K mg base ["self", "kind", "text"] "ShapeReader.__init__" (defScope (mth 15 0)) fa cdv A outer s H E).A.units + 200 < cLine := by
    have := hr.un
    show (A.deeper (envOfC "ShapeReader.__init__" (defScope (mth 15 0)) s.heap.objs.size fa cdv)).units + 200 < cLine
    omega
  have hu1 : (cxOf (L2.CX P w) P w K mg base ["self", "kind", "text"] "ShapeReader.__init__" (defScope (mth 15 0)) fa cdv A outer s H E).A.units + 1 < cLine := by omega
  exact (gs_cons (gs_asg (ge_var 1) (gg_tup rfl (ggs_cons (gg_fld [83, 104, 97, 112, 101, 82, 101, 97, 100, 101, 114] [119, 97, 121, 115] (ge_var 0) fc.k_ShapeReader fc.n_ShapeReader_ways) (ggs_cons (gg_fld [83, 104, 97, 112, 101, 82, 101, 97, 100, 101, 114] [108, 97, 98, 101, 108, 115] (ge_var 0) fc.k_ShapeReader fc.n_ShapeReader_labels) ggs_nil))))
    (gs_cons (gs_fld [83, 104, 97, 112, 101, 82, 101, 97, 100, 101, 114] [116, 101, 120, 116] (ge_var 2) (ge_var 0) fc.k_ShapeReader fc.n_ShapeReader_text)
    (gs_cons (gs_fld [83, 104, 97, 112, 101, 82, 101, 97, 100, 101, 114] [97, 116] ge_int (ge_var 0) fc.k_ShapeReader fc.n_ShapeReader_at)
    gs_nil)))
theorem k_ShapeReader_init {fd : FuncData} (F : AllK P w K mg base sig k Γ) (M : AllM P w K mg base msig 27 k Γ) (fc : Fc K mg) (U : FunD K "__init__" "ShapeReader.__init__" (defArgs (mth 15 0)) (defBody (mth 15 0)) (defScope (mth 15 0)) [] [] (He.ma K (clsA K [83, 104, 97, 112, 101, 82, 101, 97, 100, 101, 114]) (sOf [95, 95, 105, 110, 105, 116, 95, 95])) fd) : FnOk P w K mg base (L2.CX P w) (k + 2) (He.ma K (clsA K [83, 104, 97, 112, 101, 82, 101, 97, 100, 101, 114]) (sOf [95, 95, 105, 110, 105, 116, 95, 95])) fd ["self", "kind", "text"] (spG K (d_ShapeReader_init Γ) 3) :=
  fn_G (k := k + 1) U s_ShapeReader_init (fun args h _ => .inl rfl) fun cdv A outer s H E hr hp tk => w_ShapeReader_init F M fc hr hp tk
theorem s_ShapeReader_sign : FnScope ["self"] ["self"] (defScope (mth 15 1)) := ⟨rfl, rfl, rfl, by decide +kernel, rfl, by decide +kernel, by decide +kernel⟩
theorem w_ShapeReader_sign (F : AllK P w K mg base sig k Γ) (M : AllM P w K mg base msig 27 k Γ) (fc : Fc K mg) {fa : Addr} {cdv : Value} {A : Around} {outer : List PySem.Env} {s : Shared} {H : Hp} {E : XK} (hr : Room (k + 1) (A.deeper (envOfC "ShapeReader.sign" (defScope (mth 15 1)) s.heap.objs.size fa cdv)))
    (hp : PassesOwn (model P w) (A.deeper (envOfC "ShapeReader.sign" (defScope (mth 15 1)) s.heap.objs.size fa cdv)) (envOfC "ShapeReader.sign" (defScope (mth 15 1)) s.heap.objs.size fa cdv) (cxOf (L2.CX P w) P w K mg base ["self"] "ShapeReader.sign" (defScope (mth 15 1)) fa cdv A outer s H E).xe)
    (tk : Takes (cxOf (L2.CX P w) P w K mg base ["self"] "ShapeReader.sign" (defScope (mth 15 1)) fa cdv A outer s H E) (WD E)) :
    GSs (cxOf (L2.CX P w) P w K mg base ["self"] "ShapeReader.sign" (defScope (mth 15 1)) fa cdv A outer s H E) (WD E) (defBody (mth 15 1)) (b_ShapeReader_sign Γ) := by
  have nd : (["self"] : List Str).Nodup := s_ShapeReader_sign.nd
  have hu : (cxOf (L2.CX P w) P w K mg base ["self"] "ShapeReader.sign" (defScope (mth 15 1)) fa cdv A outer s H E).A.units + 200 < cLine := by
    have := hr.un
    show (A.deeper (envOfC "ShapeReader.sign" (defScope (mth 15 1)) s.heap.objs.size fa cdv)).units + 200 < cLine
    omega
  have hu1 : (cxOf (L2.CX P w) P w K mg base ["self"] "ShapeReader.sign" (defScope (mth 15 1)) fa cdv A outer s H E).A.units + 1 < cLine := by omega
  exact (gs_cons (gs_if (gt_cmp og_ge (ge_fld [83, 104, 97, 112, 101, 82, 101, 97, 100, 101, 114] [97, 116] (ge_var 0) fc.k_ShapeReader fc.n_ShapeReader_at) (ge_len (ge_fld [83, 104, 97, 112, 101, 82, 101, 97, 100, 101, 114] [116, 101, 120, 116] (ge_var 0) fc.k_ShapeReader fc.n_ShapeReader_text) fc.f_len)) (gs_cons (gs_raise [73, 110, 118, 97, 108, 105, 100, 83, 104, 97, 112, 101] rfl tk fc.e_InvalidShape.1 fc.e_InvalidShape.2.2.2.2 fc.e_InvalidShape.2.1 fc.e_InvalidShape.2.2.1 fc.e_InvalidShape.2.2.2.1)
    gs_nil) gs_nil)
    (gs_cons (gs_fldaug [83, 104, 97, 112, 101, 82, 101, 97, 100, 101, 114] [97, 116] (ge_var 0) ge_int fc.k_ShapeReader fc.n_ShapeReader_at)
    (gs_cons (gs_ret (ge_ix hu1 (ge_fld [83, 104, 97, 112, 101, 82, 101, 97, 100, 101, 114] [116, 101, 120, 116] (ge_var 0) fc.k_ShapeReader fc.n_ShapeReader_text) (ge_bin og_sub (ge_fld [83, 104, 97, 112, 101, 82, 101, 97, 100, 101, 114] [97, 116] (ge_var 0) fc.k_ShapeReader fc.n_ShapeReader_at) ge_int)))
    gs_nil)))
theorem k_ShapeReader_sign {fd : FuncData} (F : AllK P w K mg base sig k Γ) (M : AllM P w K mg base msig 27 k Γ) (fc : Fc K mg) (U : FunD K "sign" "ShapeReader.sign" (defArgs (mth 15 1)) (defBody (mth 15 1)) (defScope (mth 15 1)) [] [] (He.ma K (clsA K [83, 104, 97, 112, 101, 82, 101, 97, 100, 101, 114]) (sOf [115, 105, 103, 110])) fd) : FnOk P w K mg base (L2.CX P w) (k + 2) (He.ma K (clsA K [83, 104, 97, 112, 101, 82, 101, 97, 100, 101, 114]) (sOf [115, 105, 103, 110])) fd ["self"] (spG K (d_ShapeReader_sign Γ) 1) :=
  fn_G (k := k + 1) U s_ShapeReader_sign (fun args h _ => .inl rfl) fun cdv A outer s H E hr hp tk => w_ShapeReader_sign F M fc hr hp tk
theorem s_ShapeReader_take : FnScope ["self", "expected"] ["self", "expected"] (defScope (mth 15 2)) := ⟨rfl, rfl, rfl, by decide +kernel, rfl, by decide +kernel, by decide +kernel⟩
theorem w_ShapeReader_take (F : AllK P w K mg base sig k Γ) (M : AllM P w K mg base msig 27 k Γ) (fc : Fc K mg) {fa : Addr} {cdv : Value} {A : Around} {outer : List PySem.Env} {s : Shared} {H : Hp} {E : XK} (hr : Room (k + 1) (A.deeper (envOfC "ShapeReader.take" (defScope (mth 15 2)) s.heap.objs.size fa cdv)))
    (hp : PassesOwn (model P w) (A.deeper (envOfC "ShapeReader.take" (defScope (mth 15 2)) s.heap.objs.size fa cdv)) (envOfC "ShapeReader.take" (defScope (mth 15 2)) s.heap.objs.size fa cdv) (cxOf (L2.CX P w) P w K mg base ["self", "expected"] "ShapeReader.take" (defScope (mth 15 2)) fa cdv A outer s H E).xe)
    (tk : Takes (cxOf (L2.CX P w) P w K mg base ["self", "expected"] "ShapeReader.take" (defScope (mth 15 2)) fa cdv A outer s H E) (WD E)) :
    GSs (cxOf (L2.CX P w) P w K mg base ["self", "expected"] "ShapeReader.take" (defScope (mth 15 2)) fa cdv A outer s H E) (WD E) (defBody (mth 15 2)) (b_ShapeReader_take Γ) := by
  have nd : (["self", "expected"] : List Str).Nodup := s_ShapeReader_take.nd
  have hu : (cxOf (L2.CX P w) P w K mg base ["self", "expected"] "ShapeReader.take" (defScope (mth 15 2)) fa cdv A outer s H E).A.units + 200 < cLine := by
    have := hr.un
    show (A.deeper (envOfC "ShapeReader.take" (defScope (mth 15 2)) s.heap.objs.size fa cdv)).units + 200 < cLine
    omega
  have hu1 : (cxOf (L2.CX P w) P w K mg base ["self", "expected"] "ShapeReader.take" (defScope (mth 15 2)) fa cdv A outer s H E).A.units + 1 < cLine := by omega
  exact (gs_cons (gs_if (gt_cmp (og_ne hu) (ge_mth0 [83, 104, 97, 112, 101, 82, 101, 97, 100, 101, 114] [115, 105, 103, 110] (ge_var 0) fc.k_ShapeReader (M 1 _ _ _ rfl) (hr.mono (Nat.le_succ _)) tk) (ge_var 1)) (gs_cons (gs_raise [73, 110, 118, 97, 108, 105, 100, 83, 104, 97, 112, 101] rfl tk fc.e_InvalidShape.1 fc.e_InvalidShape.2.2.2.2 fc.e_InvalidShape.2.1 fc.e_InvalidShape.2.2.1 fc.e_InvalidShape.2.2.2.1)
    gs_nil) gs_nil)
    gs_nil)
theorem k_ShapeReader_take {fd : FuncData} (F : AllK P w K mg base sig k Γ) (M : AllM P w K mg base msig 27 k Γ) (fc : Fc K mg) (U : FunD K "take" "ShapeReader.take" (defArgs (mth 15 2)) (defBody (mth 15 2)) (defScope (mth 15 2)) [] [] (He.ma K (clsA K [83, 104, 97, 112, 101, 82, 101, 97, 100, 101, 114]) (sOf [116, 97, 107, 101])) fd) : FnOk P w K mg base (L2.CX P w) (k + 2) (He.ma K (clsA K [83, 104, 97, 112, 101, 82, 101, 97, 100, 101, 114]) (sOf [116, 97, 107, 101])) fd ["self", "expected"] (spG K (d_ShapeReader_take Γ) 2) :=
  fn_G (k := k + 1) U s_ShapeReader_take (fun args h _ => .inl rfl) fun cdv A outer s H E hr hp tk => w_ShapeReader_take F M fc hr hp tk
theorem s_ShapeReader_shape : FnScope ["self", "above", "label", "done"] ["self"] (defScope (mth 15 3)) := ⟨rfl, rfl, rfl, by decide +kernel, rfl, by decide +kernel, by decide +kernel⟩
theorem w_ShapeReader_shape (F : AllK P w K mg base sig k Γ) (M : AllM P w K mg base msig 27 k Γ) (fc : Fc K mg) {fa : Addr} {cdv : Value} {A : Around} {outer : List PySem.Env} {s : Shared} {H : Hp} {E : XK} (hr : Room (k + 1) (A.deeper (envOfC "ShapeReader.shape" (defScope (mth 15 3)) s.heap.objs.size fa cdv)))
    (hp : PassesOwn (model P w) (A.deeper (envOfC "ShapeReader.shape" (defScope (mth 15 3)) s.heap.objs.size fa cdv)) (envOfC "ShapeReader.shape" (defScope (mth 15 3)) s.heap.objs.size fa cdv) (cxOf (L2.CX P w) P w K mg base ["self", "above", "label", "done"] "ShapeReader.shape" (defScope (mth 15 3)) fa cdv A outer s H E).xe)
    (tk : Takes (cxOf (L2.CX P w) P w K mg base ["self", "above", "label", "done"] "ShapeReader.shape" (defScope (mth 15 3)) fa cdv A outer s H E) (WD E)) :
    GSs (cxOf (L2.CX P w) P w K mg base ["self", "above", "label", "done"] "ShapeReader.shape" (defScope (mth 15 3)) fa cdv A outer s H E) (WD E) (defBody (mth 15 3)) (b_ShapeReader_shape Γ) := by
  have nd : (["self", "above", "label", "done"] : List Str).Nodup := s_ShapeReader_shape.nd
  have hu : (cxOf (L2.CX P w) P w K mg base ["self", "above", "label", "done"] "ShapeReader.shape" (defScope (mth 15 3)) fa cdv A outer s H E).A.units + 200 < cLine := by
    have := hr.un
    show (A.deeper (envOfC "ShapeReader.shape" (defScope (mth 15 3)) s.heap.objs.size fa cdv)).units + 200 < cLine
    omega
  have hu1 : (cxOf (L2.CX P w) P w K mg base ["self", "above", "label", "done"] "ShapeReader.shape" (defScope (mth 15 3)) fa cdv A outer s H E).A.units + 1 < cLine := by omega
  exact (gs_cons (gs_set 1 (ge_lstM ga_nil) nd)
    (gs_cons (gs_while hp (gt_tru ge_bl) (gs_cons (gs_set 2 (ge_mth0 [83, 104, 97, 112, 101, 82, 101, 97, 100, 101, 114] [115, 105, 103, 110] (ge_var 0) fc.k_ShapeReader (M 1 _ _ _ rfl) (hr.mono (Nat.le_succ _)) tk) nd)
    (gs_cons (gs_if (gt_cmp (og_in hu) (ge_var 2) (ge_fld [83, 104, 97, 112, 101, 82, 101, 97, 100, 101, 114] [108, 97, 98, 101, 108, 115] (ge_var 0) fc.k_ShapeReader fc.n_ShapeReader_labels)) (gs_cons (gs_expr (ge_append (ge_var 1) (ge_lstM (ga_cons (ge_var 2) ga_nil))))
    (gs_cons (gs_if (gt_cmp (og_eq hu) (ge_fld [83, 104, 97, 112, 101, 82, 101, 97, 100, 101, 114] [119, 97, 121, 115] (ge_var 0) fc.k_ShapeReader fc.n_ShapeReader_ways) ge_int) (gs_cons (gs_expr (ge_mth [83, 104, 97, 112, 101, 82, 101, 97, 100, 101, 114] [116, 97, 107, 101] (ge_var 0) fc.k_ShapeReader (M 2 _ _ _ rfl) (hr.mono (Nat.le_succ _)) tk (gan_cons (ge_str [40]) gan_nil)))
    gs_nil) gs_nil)
    (gs_cons gs_continue
    gs_nil))) gs_nil)
    (gs_cons (gs_if (gt_cmp (og_ne hu) (ge_var 2) (ge_str [46])) (gs_cons (gs_raise [73, 110, 118, 97, 108, 105, 100, 83, 104, 97, 112, 101] rfl tk fc.e_InvalidShape.1 fc.e_InvalidShape.2.2.2.2 fc.e_InvalidShape.2.1 fc.e_InvalidShape.2.2.1 fc.e_InvalidShape.2.2.2.1)
    gs_nil) gs_nil)
    (gs_cons (gs_set 3 (ge_mth [83, 104, 97, 112, 101, 82, 101, 97, 100, 101, 114] [102, 105, 110, 105, 115, 104] (ge_var 0) fc.k_ShapeReader (M 4 _ _ _ rfl) (hr.mono (Nat.le_succ _)) tk (gan_cons (ge_var 1) (gan_cons (ge_tup ga_nil) gan_nil))) nd)
    (gs_cons (gs_if (gt_not (gt_tru (ge_var 1))) (gs_cons (gs_ret (ge_var 3))
    gs_nil) gs_nil)
    gs_nil))))))
    gs_nil))
theorem k_ShapeReader_shape {fd : FuncData} (F : AllK P w K mg base sig k Γ) (M : AllM P w K mg base msig 27 k Γ) (fc : Fc K mg) (U : FunD K "shape" "ShapeReader.shape" (defArgs (mth 15 3)) (defBody (mth 15 3)) (defScope (mth 15 3)) [] [] (He.ma K (clsA K [83, 104, 97, 112, 101, 82, 101, 97, 100, 101, 114]) (sOf [115, 104, 97, 112, 101])) fd) : FnOk P w K mg base (L2.CX P w) (k + 2) (He.ma K (clsA K [83, 104, 97, 112, 101, 82, 101, 97, 100, 101, 114]) (sOf [115, 104, 97, 112, 101])) fd ["self"] (spG K (d_ShapeReader_shape Γ) 1) :=
  fn_G (k := k + 1) U s_ShapeReader_shape (fun args h _ => .inl rfl) fun cdv A outer s H E hr hp tk => w_ShapeReader_shape F M fc hr hp tk
theorem s_ShapeReader_finish : FnScope ["self", "above", "done"] ["self", "above", "done"] (defScope (mth 15 4)) := ⟨rfl, rfl, rfl, by decide +kernel, rfl, by decide +kernel, by decide +kernel⟩
theorem w_ShapeReader_finish (F : AllK P w K mg base sig k Γ) (M : AllM P w K mg base msig 27 k Γ) (fc : Fc K mg) {fa : Addr} {cdv : Value} {A : Around} {outer : List PySem.Env} {s : Shared} {H : Hp} {E : XK} (hr : Room (k + 1) (A.deeper (envOfC "ShapeReader.finish" (defScope (mth 15 4)) s.heap.objs.size fa cdv)))
    (hp : PassesOwn (model P w) (A.deeper (envOfC "ShapeReader.finish" (defScope (mth 15 4)) s.heap.objs.size fa cdv)) (envOfC "ShapeReader.finish" (defScope (mth 15 4)) s.heap.objs.size fa cdv) (cxOf (L2.CX P w) P w K mg base ["self", "above", "done"] "ShapeReader.finish" (defScope (mth 15 4)) fa cdv A outer s H E).xe)
    (tk : Takes (cxOf (L2.CX P w) P w K mg base ["self", "above", "done"] "ShapeReader.finish" (defScope (mth 15 4)) fa cdv A outer s H E) (WD E)) :
    GSs (cxOf (L2.CX P w) P w K mg base ["self", "above", "done"] "ShapeReader.finish" (defScope (mth 15 4)) fa cdv A outer s H E) (WD E) (defBody (mth 15 4)) (b_ShapeReader_finish Γ) := by
  have nd : (["self", "above", "done"] : List Str).Nodup := s_ShapeReader_finish.nd
  have hu : (cxOf (L2.CX P w) P w K mg base ["self", "above", "done"] "ShapeReader.finish" (defScope (mth 15 4)) fa cdv A outer s H E).A.units + 200 < cLine := by
    have := hr.un
    show (A.deeper (envOfC "ShapeReader.finish" (defScope (mth 15 4)) s.heap.objs.size fa cdv)).units + 200 < cLine
    omega
  have hu1 : (cxOf (L2.CX P w) P w K mg base ["self", "above", "done"] "ShapeReader.finish" (defScope (mth 15 4)) fa cdv A outer s H E).A.units + 1 < cLine := by omega
  exact (gs_cons (gs_while hp (gt_tru (ge_var 1)) (gs_cons (gs_expr (ge_append (ge_ix hu1 (ge_var 1) (ge_neg ge_int)) (ge_var 2)))
    (gs_cons (gs_if (gt_cmp og_le (ge_len (ge_ix hu1 (ge_var 1) (ge_neg ge_int)) fc.f_len) (ge_fld [83, 104, 97, 112, 101, 82, 101, 97, 100, 101, 114] [119, 97, 121, 115] (ge_var 0) fc.k_ShapeReader fc.n_ShapeReader_ways)) (gs_cons (gs_expr (ge_mth [83, 104, 97, 112, 101, 82, 101, 97, 100, 101, 114] [116, 97, 107, 101] (ge_var 0) fc.k_ShapeReader (M 2 _ _ _ rfl) (hr.mono (Nat.le_succ _)) tk (gan_cons (ge_str [44]) gan_nil)))
    (gs_cons (gs_ret (ge_tup ga_nil))
    gs_nil)) gs_nil)
    (gs_cons (gs_if (gt_cmp (og_eq hu) (ge_fld [83, 104, 97, 112, 101, 82, 101, 97, 100, 101, 114] [119, 97, 121, 115] (ge_var 0) fc.k_ShapeReader fc.n_ShapeReader_ways) ge_int) (gs_cons (gs_expr (ge_mth [83, 104, 97, 112, 101, 82, 101, 97, 100, 101, 114] [116, 97, 107, 101] (ge_var 0) fc.k_ShapeReader (M 2 _ _ _ rfl) (hr.mono (Nat.le_succ _)) tk (gan_cons (ge_str [41]) gan_nil)))
    gs_nil) gs_nil)
    (gs_cons (gs_set 2 (ge_t1 c1_tuple (ge_pop (ge_var 1)) fc.f_tuple) nd)
    gs_nil)))))
    (gs_cons (gs_ret (ge_var 2))
    gs_nil))
theorem k_ShapeReader_finish {fd : FuncData} (F : AllK P w K mg base sig k Γ) (M : AllM P w K mg base msig 27 k Γ) (fc : Fc K mg) (U : FunD K "finish" "ShapeReader.finish" (defArgs (mth 15 4)) (defBody (mth 15 4)) (defScope (mth 15 4)) [] [] (He.ma K (clsA K [83, 104, 97, 112, 101, 82, 101, 97, 100, 101, 114]) (sOf [102, 105, 110, 105, 115, 104])) fd) : FnOk P w K mg base (L2.CX P w) (k + 2) (He.ma K (clsA K [83, 104, 97, 112, 101, 82, 101, 97, 100, 101, 114]) (sOf [102, 105, 110, 105, 115, 104])) fd ["self", "above", "done"] (spG K (d_ShapeReader_finish Γ) 3) :=
  fn_G (k := k + 1) U s_ShapeReader_finish (fun args h _ => .inl rfl) fun cdv A outer s H E hr hp tk => w_ShapeReader_finish F M fc hr hp tk
end
end L01
set_option Elab.async false
set_option linter.all false
set_option maxRecDepth 100000
set_option maxHeartbeats 1000000
set_option autoImplicit false
namespace L01
open GH PySem
theorem take_l {k : Nat} {m : Int} {o : Ob} {g : Hv} {P : Val → Hv → Prop} (ho : TapeOb o) (hm : 0 < m) (hm2 : m < 1073741824)
    (kk : ∀ r o', 0 ≤ r → r < m → TapeOb o' → P (.int r) (o' :: g)) : ok (lev D (k + 1) 10 [.ref 0, .int m] (o :: g)) P := take_sp hm hm2 ho kk
theorem lv {K K' j : Nat} {a : List Val} {h : Hv} {P : Val → Hv → Prop} (e : K = K') (z : ok (lev D K' j a h) P) : ok (lev D K j a h) P := by subst e; exact z
/-! what is the same -/
def Pl : Nat → Val → Prop
  | _, .bl _ => True
  | _, .int _ => True
  | _, .str _ => True
  | d + 1, .tup l => l.length ≤ 16777216 ∧ ∀ v ∈ l, Pl d v
  | d + 1, .lst l => l.length ≤ 16777216 ∧ ∀ v ∈ l, Pl d v
  | _, _ => False
theorem same_items {k : Nat} {v : Val} {l : List Val} {h : Hv} {P : Val → Hv → Prop} (hv : vLen v h = .ok (.int l.length) h) (hx : ∀ (j : Nat) u, l[j]? = some u → vIx v (.int j) h = .ok u h) (hl : l.length ≤ 16777216)
    (ih : ∀ u ∈ l, ∀ (P : Val → Hv → Prop), P (.bl true) h → ok (lev D k 13 [u, u] h) P) (z : P (.bl true) h) : ok (lev D (k + 1) 12 [v, v] h) P := by
  show ok (runDef 3 (b__law_same_items (lev D k)) [v, v] h) P
  rw [ok_run]
  refine if_ (c := false) (h := h) (by simp [dVar, hv]) (fun z => by cases z) fun _ => ?_
  refine sok_seqo (fun l' h' => (∃ x, l' = [some v, some v, x]) ∧ h' = h) ?_ ?_
  · intro R' hR
    simp only [e_for, e_rng1, e_len, dVar, List.map_cons, List.map_nil, List.cons_append, List.nil_append, List.getElem?_cons_succ, List.getElem?_cons_zero, Res.bind_ok, hv, rng_ok hl, Res.to_ok]
    refine forL_invo (fun items l' h' => (∀ x ∈ items, ∃ j : Nat, j < l.length ∧ x = .int j) ∧ (∃ x, l' = [some v, some v, x]) ∧ h' = h) ?_ ?_ _ _ _ ?_
    · intro I' hI x r l' h' ⟨hit, ⟨y, hl'⟩, eh⟩
      subst hl' eh
      obtain ⟨j, hj, rfl⟩ := hit x (List.mem_cons_self ..)
      refine ⟨trivial, ?_⟩
      have hu : l[j]? = some l[j] := List.getElem?_eq_getElem hj
      simp only [e_name, tok_ok, List.set_cons_succ, List.set_cons_zero]
      refine ifk_ ?_
      simp [dVar, hx j _ hu]
      refine ih _ (List.getElem_mem hj) _ ?_
      simp
      exact hI _ _ _ ⟨fun x hx => hit x (List.mem_cons_of_mem _ hx), ⟨_, rfl⟩, rfl⟩
    · intro l' h' ⟨_, ⟨y, hl'⟩, eh⟩
      subst hl' eh
      exact ⟨trivial, hR _ _ ⟨⟨_, rfl⟩, rfl⟩⟩
    · refine ⟨fun x hx => ?_, ⟨none, rfl⟩, rfl⟩
      obtain ⟨j, hj, rfl⟩ := rng_mem hx
      exact ⟨j, hj, rfl⟩
  · rintro l' h' ⟨⟨x, rfl⟩, rfl⟩
    exact ret_ (by simpa using z)
theorem same_refl : ∀ (d : Nat) (v : Val), Pl d v → ∀ {k : Nat} {h : Hv} {P : Val → Hv → Prop}, P (.bl true) h → ok (lev D (k + 2 * d + 2) 13 [v, v] h) P := by
  intro d
  induction d with
  | zero =>
    intro v hv k h P z
    show ok (runDef 3 (b__law_same (lev D (k + 1))) [v, v] h) P
    rw [ok_run]
    cases v with
    | bl b => exact if_ (c := false) (h := h) (by simp [dVar, vIsN, isNon]) (fun z => by cases z) fun _ => if_ (c := true) (h := h) (by simp [dVar, tyOf, isiB]) (fun _ => ret_ (by simp [dVar, tyOf, isiB]; exact z)) (fun z => by cases z)
    | int i =>
      refine if_ (c := false) (h := h) (by simp [dVar, vIsN, isNon]) (fun z => by cases z) fun _ => if_ (c := false) (h := h) (by simp [dVar, tyOf, isiB]) (fun z => by cases z) fun _ => if_ (c := true) (h := h) (by simp [dVar, tyOf, isiB]) (fun _ => ret_ ?_) (fun z => by cases z)
      simp only [e_andv, e_call, e_cons, e_nil, dVar, List.map_cons, List.map_nil, List.cons_append, List.nil_append, List.getElem?_cons_succ, List.getElem?_cons_zero, Res.bind_ok, ok_bind]
      show ok (runDef 1 (b__law_is_integer (lev D k)) [.int i] h) _
      rw [ok_run]
      refine ret_ ?_
      simp [dVar, tyOf, isiB]
      exact z
    | str s => exact if_ (c := false) (h := h) (by simp [dVar, vIsN, isNon]) (fun z => by cases z) fun _ => if_ (c := false) (h := h) (by simp [dVar, tyOf, isiB]) (fun z => by cases z) fun _ => if_ (c := false) (h := h) (by simp [dVar, tyOf, isiB]) (fun z => by cases z) fun _ => if_ (c := true) (h := h) (by simp [dVar, tyOf, isiB]) (fun _ => ret_ (by simp [dVar, tyOf, isiB]; exact z)) (fun z => by cases z)
    | _ => cases hv
  | succ d ih =>
    intro v hv k h P z
    have lo : ∀ w, Pl 0 w → ok (lev D (k + 2 * (d + 1) + 2) 13 [w, w] h) P → ok (lev D (k + 2 * (d + 1) + 2) 13 [w, w] h) P := fun _ _ q => q
    show ok (runDef 3 (b__law_same (lev D (k + 2 * (d + 1) + 1))) [v, v] h) P
    rw [ok_run]
    cases v with
    | bl b => exact if_ (c := false) (h := h) (by simp [dVar, vIsN, isNon]) (fun z => by cases z) fun _ => if_ (c := true) (h := h) (by simp [dVar, tyOf, isiB]) (fun _ => ret_ (by simp [dVar, tyOf, isiB]; exact z)) (fun z => by cases z)
    | int i =>
      refine if_ (c := false) (h := h) (by simp [dVar, vIsN, isNon]) (fun z => by cases z) fun _ => if_ (c := false) (h := h) (by simp [dVar, tyOf, isiB]) (fun z => by cases z) fun _ => if_ (c := true) (h := h) (by simp [dVar, tyOf, isiB]) (fun _ => ret_ ?_) (fun z => by cases z)
      simp only [e_andv, e_call, e_cons, e_nil, dVar, List.map_cons, List.map_nil, List.cons_append, List.nil_append, List.getElem?_cons_succ, List.getElem?_cons_zero, Res.bind_ok, ok_bind]
      show ok (runDef 1 (b__law_is_integer (lev D (k + 2 * (d + 1)))) [.int i] h) _
      rw [ok_run]
      refine ret_ ?_
      simp [dVar, tyOf, isiB]
      exact z
    | str s => exact if_ (c := false) (h := h) (by simp [dVar, vIsN, isNon]) (fun z => by cases z) fun _ => if_ (c := false) (h := h) (by simp [dVar, tyOf, isiB]) (fun z => by cases z) fun _ => if_ (c := false) (h := h) (by simp [dVar, tyOf, isiB]) (fun z => by cases z) fun _ => if_ (c := true) (h := h) (by simp [dVar, tyOf, isiB]) (fun _ => ret_ (by simp [dVar, tyOf, isiB]; exact z)) (fun z => by cases z)
    | tup l =>
      refine if_ (c := false) (h := h) (by simp [dVar, vIsN, isNon]) (fun z => by cases z) fun _ => if_ (c := false) (h := h) (by simp [dVar, tyOf, isiB]) (fun z => by cases z) fun _ => if_ (c := false) (h := h) (by simp [dVar, tyOf, isiB]) (fun z => by cases z) fun _ => if_ (c := false) (h := h) (by simp [dVar, tyOf, isiB]) (fun z => by cases z) fun _ => if_ (c := true) (h := h) (by simp [dVar, tyOf, isiB]) (fun _ => ret_ ?_) (fun z => by cases z)
      simp [dVar, tyOf, isiB]
      refine lv (show k + 2 * (d + 1) + 1 = (k + 2 * d + 2) + 1 by omega) ?_
      exact same_items (l := l) (by simp) (fun j u e => vIx_tup (nth_nat e)) hv.1 (fun u hu P z => ih u (hv.2 u hu) z) z
    | lst l =>
      refine if_ (c := false) (h := h) (by simp [dVar, vIsN, isNon]) (fun z => by cases z) fun _ => if_ (c := false) (h := h) (by simp [dVar, tyOf, isiB]) (fun z => by cases z) fun _ => if_ (c := false) (h := h) (by simp [dVar, tyOf, isiB]) (fun z => by cases z) fun _ => if_ (c := false) (h := h) (by simp [dVar, tyOf, isiB]) (fun z => by cases z) fun _ => if_ (c := false) (h := h) (by simp [dVar, tyOf, isiB]) (fun z => by cases z) fun _ => if_ (c := true) (h := h) (by simp [dVar, tyOf, isiB]) (fun _ => ret_ ?_) (fun z => by cases z)
      simp [dVar, tyOf, isiB]
      refine lv (show k + 2 * (d + 1) + 1 = (k + 2 * d + 2) + 1 by omega) ?_
      exact same_items (l := l) (by simp) (fun j u e => vIx_lst (nth_nat e)) hv.1 (fun u hu P z => ih u (hv.2 u hu) z) z
    | _ => cases hv
end L01
set_option Elab.async false
set_option linter.all false
set_option maxRecDepth 100000
set_option maxHeartbeats 1000000
set_option autoImplicit false
namespace L01
open GH PySem
abbrev kv (n : Int) (ls : List Tx) : Val := .tup [.int n, .tup (ls.map .str)]
structure KOk (n : Int) (ls : List Tx) : Prop where
  n : n = 1 ∨ n = 2
  l : ls = [[97]] ∨ ls = [[97], [98]] ∨ ls = [[98], [100], [122]]
theorem KOk.tx {n : Int} {ls : List Tx} (q : KOk n ls) : TxOk ls := by
  rcases q.l with rfl | rfl | rfl <;> decide +kernel
theorem kind_a {n : Int} {ls : List Tx} (q : KOk n ls) {k : Nat} {h : Hv} : lev D (k + 1) 0 [kv n ls] h = .ok .non h := by
  have hn : vNotIn (.int n) (.tup [.int 1, .int 2]) h = .ok (.bl false) h := by
    rcases q.n with rfl | rfl <;> rfl
  have hv : vSortSet (.tup (ls.map .str)) h = .ok (.lst (ls.map .str)) h := by
    have nd : ls.Nodup := by rcases q.l with rfl | rfl | rfl <;> decide
    have si : srt ls = ls := srt_id (by rcases q.l with rfl | rfl | rfl <;> decide +kernel)
    have := vSortSet_txt (L := ls) (M := ls) (v := .tup (ls.map .str)) (h := h) rfl (by rcases q.l with rfl | rfl | rfl <;> decide) nd fun x => Iff.rfl
    rwa [si] at this
  have hl : 1 ≤ ls.length ∧ ls.length ≤ 3 := by rcases q.l with rfl | rfl | rfl <;> decide
  have h1 : ((ls.length : Nat) : Int) ≤ 3 := by omega
  have h2 : (1 : Int) ≤ ((ls.length : Nat) : Int) := by omega
  have hne : vNe (.lst (ls.map .str)) (.lst (ls.map .str)) h = .ok (.bl false) h := by
    rcases q.l with rfl | rfl | rfl <;> rfl
  have hin : ∀ x ∈ ls, x.length = 1 ∧ vIn (.str x) (.str [97, 98, 99, 100, 101, 102, 103, 104, 105, 106, 107, 108, 109, 110, 111, 112, 113, 114, 115, 116, 117, 118, 119, 120, 121, 122]) h = .ok (.bl true) h := by
    rcases q.l with rfl | rfl | rfl <;> simp <;> (repeat' constructor)
  refine eq_of ?_
  show ok (runDef 4 (b_check_kind (lev D k)) [kv n ls] h) _
  rw [ok_run]
  refine sok_seqo (fun l h' => l = [some (kv n ls), some (.int n), some (.tup (ls.map .str)), none] ∧ h' = h) (fun R' hR => ?_) ?_
  · simp [dVar, gTup, gsCons, gsNil]
    exact hR _ _ ⟨rfl, rfl⟩
  rintro l h' ⟨rfl, e⟩
  rw [e]
  refine if_ (c := false) (h := h) ?_ (fun z => by cases z) fun _ => ?_
  · simp [dVar, mkT_ok, hn, h1, h2, vList, seqOf, hv, hne]
  refine if_ (c := false) (h := h) ?_ (fun z => by cases z) fun _ => ?_
  · simp only [e_not, e_tru, e_fn, dLc, e_iseq, dVar, List.getElem?_cons_succ, List.getElem?_cons_zero, Res.bind_ok, vIter_tup]
    rw [lcL_mapL Val.str (fun _ => .bl true) (srcOk_none _ _) ls [] fun x hx => ⟨_, rfl, by
      have hlen : vLen (.str x) h = .ok (.int 1) h := by simp [vLen, (hin x hx).1, lineN]
      simp [wipeL, dVar, hlen, (hin x hx).2]⟩]
    simp only [List.nil_append, frozen, Res.bind_ok]
    rw [show ls.map (fun _ => Val.bl true) = (ls.map fun _ => true).map Val.bl by simp, vAll_bls]
    simp
  · simp
section
variable {n : Nat} {b : Stm} {args : List Val} {h h1 : Hv} {l' : GH.Loc}
theorem run_nx (e : b (args.map some ++ List.replicate (n - args.length) none) h = .nx l' h1) : runDef n b args h = .ok .non h1 := by simp only [runDef, e]
theorem run_rt {v : Val} (e : b (args.map some ++ List.replicate (n - args.length) none) h = .rt v h1) : runDef n b args h = .ok v h1 := by simp only [runDef, e]
theorem run_exc {x : Ex} (e : b (args.map some ++ List.replicate (n - args.length) none) h = .exc x l' h1) : runDef n b args h = .exc x h1 := by simp only [runDef, e]
end
theorem expr_eq {d : Den} {rest : Stm} {l : GH.Loc} {h h1 : Hv} {v : Val} (e : d l h = .ok v h1) : sSeq (sExpr d) rest l h = rest l h1 := by
  rw [e_seq, e_expr, e]
  rfl
theorem expr_ex {d : Den} {rest : Stm} {l : GH.Loc} {h h1 : Hv} {x : Ex} (e : d l h = .exc x h1) : sSeq (sExpr d) rest l h = .exc x l h1 := by
  rw [e_seq, e_expr, e]
  rfl
theorem raise_if {t : DenG Bool} {E : Tx} {rest : Stm} {l : GH.Loc} {h : Hv} {c : Bool} (e : t l h = .ok c h) : sSeq (sIf t (sSeq (sRaise E) sNext) sNext) rest l h = if c = true then .exc ⟨E, []⟩ l h else rest l h := by
  rw [e_seq, e_if, e]
  cases c <;> rfl
theorem asg_eq {d : Den} {t : Tg} {rest : Stm} {l l1 : GH.Loc} {h h1 : Hv} {v : Val} (e : d l h = .ok v h1) (e2 : t v l h1 = .ok l1 h1) : sSeq (sAsg d t) rest l h = rest l1 h1 := by
  rw [e_seq, e_asg, e]
  simp [e2]
theorem kind_sp {k : Nat} {o : Ob} {g : Hv} {P : Val → Hv → Prop} (ho : TapeOb o) (kk : ∀ (n : Int) (ls : List Tx) o', KOk n ls → TapeOb o' → P (kv n ls) (o' :: g)) :
    ok (lev D (k + 2) 14 [.ref 0] (o :: g)) P := by
  show ok (runDef 2 (b__law_kind (lev D (k + 1))) [.ref 0] (o :: g)) P
  rw [ok_run]
  refine sok_seqo (fun l h => ∃ (ls : List Tx) (o' : Ob), (ls = [[97]] ∨ ls = [[97], [98]] ∨ ls = [[98], [100], [122]]) ∧ TapeOb o' ∧ l = [some (.ref 0), some (.tup (ls.map .str))] ∧ h = o' :: g) (fun R' hR => ?_) ?_
  · simp [dVar, mkTup, lineN]
    refine take_l ho (by omega) (by omega) fun r o' h0 h1 ho' => ?_
    obtain rfl | rfl | rfl | rfl : r = 0 ∨ r = 1 ∨ r = 2 ∨ r = 3 := by omega
    · rw [vIx_tup (v := .tup [.str [97]]) rfl]; exact hR _ _ ⟨[[97]], o', .inl rfl, ho', rfl, rfl⟩
    · rw [vIx_tup (v := .tup [.str [97], .str [98]]) rfl]; exact hR _ _ ⟨[[97], [98]], o', .inr (.inl rfl), ho', rfl, rfl⟩
    · rw [vIx_tup (v := .tup [.str [97], .str [98]]) rfl]; exact hR _ _ ⟨[[97], [98]], o', .inr (.inl rfl), ho', rfl, rfl⟩
    · rw [vIx_tup (v := .tup [.str [98], .str [100], .str [122]]) rfl]; exact hR _ _ ⟨[[98], [100], [122]], o', .inr (.inr rfl), ho', rfl, rfl⟩
  · rintro l h ⟨ls, o', h1, h3, rfl, rfl⟩
    simp [dVar, mkTup, lineN]
    refine take_l h3 (by omega) (by omega) fun r o'' h0 h4 ho' => ?_
    simp [vDiv_ok _ (show (0 : Int) < 3 by omega) (show (3 : Int) < 1073741824 by omega)]
    exact kk _ ls o'' ⟨by omega, h1⟩ ho'
section
variable {t : DenG Bool} {a b : Stm} {l : GH.Loc} {h h1 : Hv} {Q : Post} {c : Bool}
theorem sif_ (e : t l h = .ok c h1) (z1 : c = true → sok (a l h1) Q) (z2 : c = false → sok (b l h1) Q) : sok (sIf t a b l h) Q := by
  rw [e_if, e]
  cases c with
  | true => simpa using z1 rfl
  | false => simpa using z2 rfl
theorem sifk_ (e : ok (t l h) fun c h1 => (c = true → sok (a l h1) Q) ∧ (c = false → sok (b l h1) Q)) : sok (sIf t a b l h) Q := by
  rw [e_if, sok_to]
  refine ok_imp e fun c h1 z => ?_
  cases c with
  | true => simpa using z.1 rfl
  | false => simpa using z.2 rfl
end

/-! shapes -/
inductive Sh where
  | nil | one (l : Tx) (c : Sh) | two (l : Tx) (a b : Sh)
def Sh.val : Sh → Val
  | .nil => .tup []
  | .one l c => .tup [.str l, c.val]
  | .two l a b => .tup [.str l, a.val, b.val]
def Sh.ok (n : Int) (ls : List Tx) : Sh → Prop
  | .nil => True
  | .one l c => n = 1 ∧ l ∈ ls ∧ c.ok n ls
  | .two l a b => n = 2 ∧ l ∈ ls ∧ a.ok n ls ∧ b.ok n ls
def Sh.size : Sh → Nat
  | .nil => 0
  | .one _ c => c.size + 1
  | .two _ a b => a.size + b.size + 1
def Sh.txt : Sh → Tx
  | .nil => [46]
  | .one l c => l ++ c.txt
  | .two l a b => l ++ [40] ++ a.txt ++ [44] ++ b.txt ++ [41]
theorem KOk.one {n : Int} {ls : List Tx} (q : KOk n ls) : ∀ l ∈ ls, ∃ c, l = [c] ∧ 97 ≤ c ∧ c ≤ 122 := by
  rcases q.l with rfl | rfl | rfl <;> simp
theorem Sh.okv {n : Int} {ls : List Tx} (kk : KOk n ls) : ∀ {s : Sh}, s.ok n ls → okV s.val = true
  | .nil, _ => rfl
  | .one l c, g => by simp only [Sh.val, okV, okVs, Bool.and_true]; rw [Sh.okv kk g.2.2]; simpa [okV] using kk.tx l g.2.1
  | .two l a b, g => by simp only [Sh.val, okV, okVs, Bool.and_true]; rw [Sh.okv kk g.2.2.1, Sh.okv kk g.2.2.2]; simpa [okV] using kk.tx l g.2.1
def Sh.isNil : Sh → Bool
  | .nil => true
  | _ => false
theorem eq_nil {s : Sh} {h : Hv} (o : okV s.val = true) : vEq s.val (.tup []) h = .ok (.bl s.isNil) h := by
  cases s with
  | nil => rfl
  | one l c =>
    simp only [Sh.val] at o ⊢
    simp only [vEq, thaw, eqOk, o, okV, okVs, dpV, dpVs, Bool.and_true, Bool.true_and]
    rw [if_pos (by simp)]
    rfl
  | two l a b =>
    simp only [Sh.val] at o ⊢
    simp only [vEq, thaw, eqOk, o, okV, okVs, dpV, dpVs, Bool.and_true, Bool.true_and]
    rw [if_pos (by simp)]
    rfl
theorem txt_len {n : Int} {ls : List Tx} (kk : KOk n ls) : ∀ {s : Sh}, s.ok n ls → s.txt.length ≤ 5 * s.size + 1
  | .nil, _ => by simp [Sh.txt]
  | .one l c, g => by
    obtain ⟨x, rfl, _⟩ := kk.one l g.2.1
    have := txt_len kk g.2.2
    simp [Sh.txt, Sh.size]; omega
  | .two l a b, g => by
    obtain ⟨x, rfl, _⟩ := kk.one l g.2.1
    have := txt_len kk g.2.2.1
    have := txt_len kk g.2.2.2
    simp [Sh.txt, Sh.size]; omega
theorem shape_sp : ∀ (c : Nat) {k : Nat} {o : Ob} {g : Hv} {n : Int} {ls : List Tx} {P : Val → Hv → Prop}, TapeOb o → KOk n ls → c < 1000 →
    (∀ (s : Sh) o', s.size = c → s.ok n ls → TapeOb o' → P s.val (o' :: g)) → ok (lev D (k + c + 2) 15 [.ref 0, kv n ls, .int c] (o :: g)) P := by
  intro c
  induction c using Nat.strongRecOn with
  | _ c ih =>
    intro k o g n ls P ho kq hc kk
    have hn := kq.n
    have h2 : ls.length ≤ 3 := by rcases kq.l with rfl | rfl | rfl <;> simp
    have hl0 : 0 < ls.length := by rcases kq.l with rfl | rfl | rfl <;> simp
    show ok (runDef 5 (b__law_shape (lev D (k + c + 1))) [.ref 0, kv n ls, .int c] (o :: g)) P
    rw [ok_run]
    by_cases h0 : c = 0
    · subst h0
      simp [b__law_shape, dVar, mkTup, lineN]
      exact kk .nil o rfl trivial ho
    have hl : 0 < (ls.length : Int) := by omega
    refine sok_seqo (fun l h => l = [some (.ref 0), some (kv n ls), some (.int c), none, none] ∧ h = o :: g) (fun R' hR => by simp [dVar, h0]; exact hR _ _ ⟨rfl, rfl⟩) ?_
    rintro l h ⟨rfl, rfl⟩
    refine asgo_ (fun v h => ∃ (lb : Tx) (o' : Ob), lb ∈ ls ∧ TapeOb o' ∧ v = .str lb ∧ h = o' :: g) (fun Q' hQ => ?_) ?_
    · simp [dVar]
      have hq : (ls.map Val.str).length = ls.length := by simp
      refine take_l ho hl (by omega) fun r o' h0 h4 ho' => ?_
      obtain ⟨v, e1, e2⟩ := nth_of (l := ls.map Val.str) h0 (by simpa using h4)
      obtain ⟨lb, hlb, rfl⟩ := List.mem_map.mp e2
      rw [vIx_tup e1]
      exact hQ _ _ ⟨lb, o', hlb, ho', rfl, rfl⟩
    rintro v h ⟨lb, o1, hlb, ho1, rfl, rfl⟩
    simp only [List.set_cons_succ, List.set_cons_zero]
    obtain ⟨d, rfl⟩ : ∃ d, c = d + 1 := ⟨c - 1, by omega⟩
    have e1 : ((d + 1 : Nat) : Int) - 1 = (d : Nat) := by omega
    rcases hn with rfl | rfl
    · refine if_ (c := true) (h := o1 :: g) (by simp [dVar]) (fun _ => ret_ ?_) (fun z => by cases z)
      simp [dVar, e1]
      rw [show k + (d + 1) + 1 = k + d + 2 by omega]
      refine ih d (by omega) ho1 kq (by omega) fun s o2 hs hg ho2 => ?_
      rw [mkT_ok (by simp)]
      exact kk (.one lb s) o2 (by simp [Sh.size, hs]) ⟨rfl, hlb, hg⟩ ho2
    · refine if_ (c := false) (h := o1 :: g) (by simp [dVar]) (fun z => by cases z) (fun _ => ?_)
      refine asgo_ (fun v h => ∃ (a : Nat) (o' : Ob), a ≤ d ∧ TapeOb o' ∧ v = .int a ∧ h = o' :: g) (fun Q' hQ => ?_) ?_
      · simp [dVar]
        refine take_l ho1 (by omega) (by omega) fun r o' h0 h4 ho' => hQ _ _ ⟨r.toNat, o', by omega, ho', ?_, rfl⟩
        congr 1
        omega
      rintro v h ⟨a, o2, ha, ho2, rfl, rfl⟩
      refine ret_ ?_
      simp [dVar]
      rw [show k + (d + 1) + 1 = (k + d - a) + a + 2 by omega]
      refine ih a (by omega) ho2 kq (by omega) fun s1 o3 hs1 hg1 ho3 => ?_
      rw [show ((d : Int) - a) = ((d - a : Nat) : Int) by omega, show (k + d - a) + a + 2 = (k + a) + (d - a) + 2 by omega]
      refine ih (d - a) (by omega) ho3 kq (by omega) fun s2 o4 hs2 hg2 ho4 => ?_
      rw [mkT_ok (by simp)]
      exact kk (.two lb s1 s2) o4 (by simp [Sh.size, hs1, hs2]; omega) ⟨rfl, hlb, hg1, hg2⟩ ho4
/-! texts -/
theorem add_str {a b : Tx} {h : Hv} (e : a.length + b.length ≤ 16777216) : vAdd (.str a) (.str b) h = .ok (.str (a ++ b)) h := by simp [vAdd, lineN, e]
theorem text_b {n : Int} {ls : List Tx} (kk : KOk n ls) : ∀ (s : Sh), s.ok n ls → s.size ≤ 1000 → ∀ {k : Nat} {h : Hv}, lev D (k + s.size + 1) 18 [s.val] h = .ok (.str s.txt) h
  | .nil, g, _, k, h => by
    refine eq_of ?_
    show ok (runDef 1 (b__law_text (lev D (k + 0))) [Sh.nil.val] h) _
    rw [ok_run]
    refine if_ (c := true) (h := h) (by simp [dVar, mkT_ok, eq_nil (s := .nil) rfl, Sh.isNil]) (fun _ => ret_ (by simp [Sh.txt])) (fun z => by cases z)
  | .one l c, g, hs, k, h => by
    refine eq_of ?_
    simp only [Sh.size] at hs
    have o := Sh.okv kk (s := .one l c) g
    have ih := text_b kk c g.2.2 (by omega) (k := k) (h := h)
    have hl := txt_len kk (s := .one l c) g
    simp only [Sh.txt, List.length_append, Sh.size] at hl
    show ok (runDef 1 (b__law_text (lev D (k + c.size + 1))) [(Sh.one l c).val] h) _
    rw [ok_run]
    refine if_ (c := false) (h := h) (by simp [dVar, mkT_ok, eq_nil o, Sh.isNil]) (fun z => by cases z) (fun _ => ?_)
    refine if_ (c := true) (h := h) (by simp [dVar, Sh.val]) (fun _ => ret_ ?_) (fun z => by cases z)
    simp [dVar, Sh.val, ih, Sh.txt]
    rw [add_str (by omega)]
    simp
  | .two l a b, g, hs, k, h => by
    refine eq_of ?_
    simp only [Sh.size] at hs
    have o := Sh.okv kk (s := .two l a b) g
    have i1 := text_b kk a g.2.2.1 (by omega) (k := k + b.size) (h := h)
    have i2 := text_b kk b g.2.2.2 (by omega) (k := k + a.size) (h := h)
    rw [show k + b.size + a.size + 1 = k + (a.size + b.size) + 1 by omega] at i1
    rw [show k + a.size + b.size + 1 = k + (a.size + b.size) + 1 by omega] at i2
    have hl := txt_len kk (s := .two l a b) g
    simp only [Sh.txt, List.length_append, Sh.size, List.length_cons, List.length_nil] at hl
    show ok (runDef 1 (b__law_text (lev D (k + (a.size + b.size) + 1))) [(Sh.two l a b).val] h) _
    rw [ok_run]
    refine if_ (c := false) (h := h) (by simp [dVar, mkT_ok, eq_nil o, Sh.isNil]) (fun z => by cases z) (fun _ => ?_)
    refine if_ (c := false) (h := h) (by simp [dVar, Sh.val]) (fun z => by cases z) (fun _ => ret_ ?_)
    simp [dVar, Sh.val, i1, i2, Sh.txt]
    rw [add_str (by simp; omega)]
    simp only [ok_ok]
    rw [i1]
    simp only [ok_ok]
    rw [add_str (by simp; omega)]
    simp only [ok_ok]
    rw [add_str (by simp; omega)]
    simp only [ok_ok]
    rw [i2]
    simp only [ok_ok]
    rw [add_str (by simp; omega)]
    simp only [ok_ok]
    rw [add_str (by simp; omega)]
    simp
end L01
set_option Elab.async false
set_option linter.all false
set_option maxRecDepth 100000
set_option maxHeartbeats 1000000
set_option autoImplicit false
namespace L01
open GH PySem
/-! write_shape -/
inductive It where
  | t (w : Tx) | s (x : Sh)
def It.val : It → Val
  | .t w => .str w
  | .s x => x.val
def rend : Sh → List Tx
  | .nil => [[46]]
  | .one l c => l :: rend c
  | .two l a b => l :: [40] :: (rend a ++ [44] :: (rend b ++ [[41]]))
def It.rend : It → List Tx
  | .t w => [w]
  | .s x => L01.rend x
def wt : Sh → Nat
  | .nil => 1
  | .one _ c => wt c + 1
  | .two _ a b => wt a + wt b + 4
def It.wt : It → Nat
  | .t _ => 1
  | .s x => L01.wt x
def wts (st : List It) : Nat := (st.map It.wt).sum
theorem wt_pos (x : It) : 0 < x.wt := by
  cases x with
  | t w => simp [It.wt]
  | s x => cases x <;> simp [It.wt, wt]
theorem wts_len (st : List It) : st.length ≤ wts st := by
  induction st with
  | nil => exact Nat.zero_le _
  | cons a st ih =>
    have := wt_pos a
    simp [wts] at ih ⊢; omega
theorem rend_wt : ∀ s : Sh, (rend s).length ≤ wt s
  | .nil => by simp [rend, wt]
  | .one l c => by have := rend_wt c; simp [rend, wt]; omega
  | .two l a b => by have := rend_wt a; have := rend_wt b; simp [rend, wt]; omega
theorem wt_size : ∀ s : Sh, wt s ≤ 5 * s.size + 1
  | .nil => by simp [wt, Sh.size]
  | .one l c => by have := wt_size c; simp [wt, Sh.size]; omega
  | .two l a b => by have := wt_size a; have := wt_size b; simp [wt, Sh.size]; omega
theorem rend_txt : ∀ s : Sh, (rend s).flatten = s.txt
  | .nil => rfl
  | .one l c => by simp [rend, Sh.txt, rend_txt c]
  | .two l a b => by simp [rend, Sh.txt, rend_txt a, rend_txt b]
theorem joinL_nil : ∀ L : List Tx, TL.joinL [] L = L.flatten
  | [] => rfl
  | [p] => by simp [TL.joinL]
  | p :: q :: r => by rw [TL.joinL, joinL_nil (q :: r)]; simp
noncomputable def wBody : Stm := (sSeq (sAsg (dMeth0 isLst vPop (dVar 2)) (gName 3))
    (sSeq (sIf (dTru (dIsi .str (dVar 3))) (sSeq (sExpr (dMeth1 isLst vAppend (dVar 1) (dVar 3)))
    sNext) (sSeq (sIf (dNot (dTru (dVar 3))) (sSeq (sExpr (dMeth1 isLst vAppend (dVar 1) (dC (.str [46]))))
    sNext) (sSeq (sIf (dB (dBin vEq (dLen (dVar 3)) (dC (.int 2)))) (sSeq (sExpr (dMeth1 isLst vAppend (dVar 1) (dBin vIx (dVar 3) (dC (.int 0)))))
    (sSeq (sExpr (dMeth1 isLst vAppend (dVar 2) (dBin vIx (dVar 3) (dC (.int 1)))))
    sNext)) (sSeq (sExpr (dMeth1 isLst vAppend (dVar 1) (dBin vIx (dVar 3) (dC (.int 0)))))
    (sSeq (sExpr (dMeth1 isLst (fun x v h => if (lstOf h v).isSome then vExtend x v h else .fail) (dVar 2) (dLst (dCons (dC (.str [41])) (dCons (dBin vIx (dVar 3) (dC (.int 2))) (dCons (dC (.str [44])) (dCons (dBin vIx (dVar 3) (dC (.int 1))) (dCons (dC (.str [40])) dNil))))))))
    sNext)))
    sNext))
    sNext))
    sNext))
theorem extend_ref {i : Nat} {l k : List Val} {h : Hv} (e : h[i]? = some (.lst l)) (hl : l.length + k.length ≤ 16777216) : vExtend (.ref i) (.lst k) h = .ok .non (h.set i (.lst (l ++ k))) := by
  simp [vExtend, e, seqOf, lstOf, lineN, hl]
theorem app1 {h : Hv} {l : GH.Loc} {i j : Nat} {L : List Val} {d : Den} {v : Val} (hi : l[i]? = some (some (.ref j))) (hj : h[j]? = some (.lst L)) (hd : d l h = .ok v h) (hl : L.length < 16777216) : dMeth1 isLst vAppend (dVar i) d l h = .ok .non (h.set j (.lst (L ++ [v]))) := by
  simp only [e_meth1, dVar, hi, Res.bind_ok, isLst_ref hj, if_true, hd, append_ref hj hl]
theorem wloop {h : Hv} {v0 : Val} {R : GH.Loc → Hv → Prop} : ∀ (n : Nat) (st : List It) (res : List Tx) (x : Option Val), wts st ≤ n → res.length + n ≤ 100000 →
    (∀ x, R [some v0, some (.ref h.length), some (.ref (h.length + 1)), x] (h ++ [.lst ((res ++ (st.reverse.flatMap It.rend)).map .str), .lst []])) →
    sok (sWhile (dTru (dVar 2)) wBody [some v0, some (.ref h.length), some (.ref (h.length + 1)), x] (h ++ [.lst (res.map .str), .lst (st.map It.val)])) { nx := R } := by
  intro n
  induction n with
  | zero =>
    intro st res x hm hr q
    cases st with
    | cons a st =>
      have := wt_pos a
      simp [wts] at hm; omega
    | nil =>
      rw [sWhile_eq]
      simp [dVar, tru_ref (g1 h _ _)]
      simpa using q x
  | succ n ih =>
    intro st res x hm hr q
    rcases List.eq_nil_or_concat st with rfl | ⟨st, a, rfl⟩
    · rw [sWhile_eq]
      simp [dVar, tru_ref (g1 h _ _)]
      simpa using q x
    · rw [List.concat_eq_append] at hm q ⊢
      rw [sWhile_eq]
      simp only [e_tru, dVar, List.getElem?_cons_succ, List.getElem?_cons_zero, Res.bind_ok, tru_ref (g1 h _ _), Res.to_ok]
      rw [if_pos (by simp)]
      rw [sok_turn]
      have hms : wts st + a.wt ≤ n + 1 := by simpa [wts] using hm
      have hs := wts_len st
      refine asg_ (h1 := h ++ [.lst (res.map .str), .lst (st.map It.val)]) (v := a.val) ?_ ?_
      · simp only [e_meth0, dVar, List.getElem?_cons_succ, List.getElem?_cons_zero, Res.bind_ok, isLst_ref (g1 h _ _), if_true]
        rw [pop_ref (l := st.map It.val) (v := a.val) (by rw [g1]; simp)]
        simp
      simp only [List.set_cons_succ, List.set_cons_zero]
      have g0' := g0 h (.lst (res.map .str)) (.lst (st.map It.val))
      have g1' := g1 h (.lst (res.map .str)) (.lst (st.map It.val))
      have lr : (res.map Val.str).length < 16777216 := by simp; omega
      have ls : (st.map It.val).length < 16777216 := by simp; omega
      cases a with
      | t w =>
        simp only [It.wt] at hms
        refine if2_ (show dTru (dIsi .str (dVar 3)) [some v0, some (.ref h.length), some (.ref (h.length + 1)), some (It.t w).val] (h ++ [.lst (res.map .str), .lst (st.map It.val)]) = .ok true (h ++ [.lst (res.map .str), .lst (st.map It.val)]) by simp [dVar, It.val, tyOf, isiB]) (fun _ => ?_) (fun z => by cases z)
        refine expr_ (app1 (j := h.length) (v := .str w) rfl g0' rfl lr) ?_
        simp only [s0, e_next, sok_nx]
        rw [show (res.map Val.str) ++ [.str w] = (res ++ [w]).map .str by simp]
        refine ih st (res ++ [w]) _ (by omega) (by simp; omega) fun x => ?_
        have := q x
        simpa [It.rend] using this
      | s sh =>
        refine if2_ (show dTru (dIsi .str (dVar 3)) [some v0, some (.ref h.length), some (.ref (h.length + 1)), some (It.s sh).val] (h ++ [.lst (res.map .str), .lst (st.map It.val)]) = .ok false (h ++ [.lst (res.map .str), .lst (st.map It.val)]) by cases sh <;> simp [dVar, It.val, Sh.val, tyOf, isiB]) (fun z => by cases z) (fun _ => ?_)
        cases sh with
        | nil =>
          simp only [It.wt, wt] at hms
          refine if2_ (show dNot (dTru (dVar 3)) [some v0, some (.ref h.length), some (.ref (h.length + 1)), some (It.s .nil).val] (h ++ [.lst (res.map .str), .lst (st.map It.val)]) = .ok true (h ++ [.lst (res.map .str), .lst (st.map It.val)]) by simp [dVar, It.val, Sh.val]) (fun _ => ?_) (fun z => by cases z)
          refine expr_ (app1 (j := h.length) (v := .str [46]) rfl g0' rfl lr) ?_
          simp only [s0, e_next, sok_nx]
          rw [show (res.map Val.str) ++ [.str [46]] = (res ++ [[46]]).map .str by simp]
          refine ih st (res ++ [[46]]) _ (by omega) (by simp; omega) fun x => ?_
          have := q x
          simpa [It.rend, rend] using this
        | one l c =>
          simp only [It.wt, wt] at hms
          refine if2_ (show dNot (dTru (dVar 3)) [some v0, some (.ref h.length), some (.ref (h.length + 1)), some (It.s (.one l c)).val] (h ++ [.lst (res.map .str), .lst (st.map It.val)]) = .ok false (h ++ [.lst (res.map .str), .lst (st.map It.val)]) by simp [dVar, It.val, Sh.val]) (fun z => by cases z) (fun _ => ?_)
          refine if2_ (show dB (dBin vEq (dLen (dVar 3)) (dC (.int 2))) [some v0, some (.ref h.length), some (.ref (h.length + 1)), some (It.s (.one l c)).val] (h ++ [.lst (res.map .str), .lst (st.map It.val)]) = .ok true (h ++ [.lst (res.map .str), .lst (st.map It.val)]) by simp [dVar, It.val, Sh.val]) (fun _ => ?_) (fun z => by cases z)
          refine expr_ (app1 (j := h.length) (v := .str l) rfl g0' (by simp [dVar, It.val, Sh.val]) lr) ?_
          rw [s0]
          refine expr_ (app1 (j := h.length + 1) (v := c.val) rfl (g1 h _ _) (by simp [dVar, It.val, Sh.val]) ls) ?_
          simp only [s1, e_next, sok_nx]
          rw [show (res.map Val.str) ++ [.str l] = (res ++ [l]).map .str by simp, show (st.map It.val) ++ [c.val] = (st ++ [It.s c]).map It.val by simp [It.val]]
          refine ih (st ++ [It.s c]) (res ++ [l]) _ (by simp [wts, It.wt] at hms ⊢; omega) (by simp; omega) fun x => ?_
          have := q x
          simpa [It.rend, rend] using this
        | two l a b =>
          simp only [It.wt, wt] at hms
          refine if2_ (show dNot (dTru (dVar 3)) [some v0, some (.ref h.length), some (.ref (h.length + 1)), some (It.s (.two l a b)).val] (h ++ [.lst (res.map .str), .lst (st.map It.val)]) = .ok false (h ++ [.lst (res.map .str), .lst (st.map It.val)]) by simp [dVar, It.val, Sh.val]) (fun z => by cases z) (fun _ => ?_)
          refine if2_ (show dB (dBin vEq (dLen (dVar 3)) (dC (.int 2))) [some v0, some (.ref h.length), some (.ref (h.length + 1)), some (It.s (.two l a b)).val] (h ++ [.lst (res.map .str), .lst (st.map It.val)]) = .ok false (h ++ [.lst (res.map .str), .lst (st.map It.val)]) by simp [dVar, It.val, Sh.val]) (fun z => by cases z) (fun _ => ?_)
          refine expr_ (app1 (j := h.length) (v := .str l) rfl g0' (by simp [dVar, It.val, Sh.val]) lr) ?_
          rw [s0]
          refine expr_ (h1 := h ++ [.lst (res.map .str ++ [.str l]), .lst (st.map It.val ++ [.str [41], b.val, .str [44], a.val, .str [40]])]) (v := .non) ?_ ?_
          · simp only [e_meth1, dVar, List.getElem?_cons_succ, List.getElem?_cons_zero, Res.bind_ok, isLst_ref (g1 h _ _), if_true, e_lst, e_cons, e_nil, e_c, e_bin, It.val, Sh.val, t1, t2]
            rw [mkL_ok (by simp)]
            simp only [Res.bind_ok, lstOf, Option.isSome_some, if_true]
            rw [extend_ref (g1 h _ _) (by simp; omega), s1]
          simp only [e_next, sok_nx]
          rw [show (res.map Val.str) ++ [.str l] = (res ++ [l]).map .str by simp, show (st.map It.val) ++ [.str [41], b.val, .str [44], a.val, .str [40]] = (st ++ [It.t [41], It.s b, It.t [44], It.s a, It.t [40]]).map It.val by simp [It.val]]
          refine ih (st ++ [It.t [41], It.s b, It.t [44], It.s a, It.t [40]]) (res ++ [l]) _ (by simp [wts, It.wt] at hms ⊢; omega) (by simp; omega) fun x => ?_
          have := q x
          simpa [It.rend, rend] using this
theorem okS_app (a b : Tx) : okV (.str (a ++ b)) = (okV (.str a) && okV (.str b)) := by
  simp only [okV, List.all_append]
theorem txt_ok {n : Int} {ls : List Tx} (kk : KOk n ls) : ∀ {s : Sh}, s.ok n ls → okV (.str s.txt) = true
  | .nil, _ => by decide +kernel
  | .one l c, g => by
    simp only [Sh.txt, okS_app, kk.tx l g.2.1, txt_ok kk g.2.2, Bool.and_self]
  | .two l a b, g => by
    have p1 : okV (.str [40]) = true := by decide +kernel
    have p2 : okV (.str [44]) = true := by decide +kernel
    have p3 : okV (.str [41]) = true := by decide +kernel
    simp only [Sh.txt, okS_app, kk.tx l g.2.1, txt_ok kk g.2.2.1, txt_ok kk g.2.2.2, p1, p2, p3, Bool.and_self]
theorem write_a {n : Int} {ls : List Tx} (kk : KOk n ls) {s : Sh} (g : s.ok n ls) (hs : s.size ≤ 1000) {k : Nat} {h : Hv} : lev D (k + 1) 7 [s.val] h = .ok (.str s.txt) h := by
  refine eq_of ?_
  show ok (tidy (runDef 4 (b_write_shape (lev D k)) [s.val] h) h) _
  refine tidy_app ?_
  rw [ok_run]
  have hw := wt_size s
  refine asg_ (h1 := h ++ [.lst []]) (v := .ref h.length) (by simp [mkRef, lineN]) ?_
  refine asg_ (h1 := h ++ [.lst [], .lst [s.val]]) (v := .ref (h.length + 1)) (by simp [mkRef, lineN, dVar]) ?_
  refine sok_seqo (fun l h' => (∃ x, l = [some s.val, some (.ref h.length), some (.ref (h.length + 1)), x]) ∧ h' = h ++ [.lst ((rend s).map .str), .lst []]) (fun R' hR => ?_) ?_
  · exact sok_imp (wloop (h := h) (v0 := s.val) (R := R') (wt s) [.s s] [] none (by simp [wts, It.wt]) (by simp; omega) fun x => hR _ _ ⟨⟨x, rfl⟩, by simp [It.rend]⟩) (fun _ _ z => z) (fun _ _ z => z.elim) (fun _ _ z => z.elim) (fun _ _ z => z.elim)
  · rintro l h' ⟨⟨x, rfl⟩, rfl⟩
    refine ret_ ?_
    have hl := txt_len kk g
    have hr := rend_wt s
    have e : ((rend s).map List.length).sum = s.txt.length := by
      rw [← rend_txt s, List.length_flatten]
    have hj : vJoin (.str []) (.ref h.length) (h ++ [.lst ((rend s).map .str), .lst []]) = .ok (.str s.txt) (h ++ [.lst ((rend s).map .str), .lst []]) := by
      simp only [vJoin, seqOf, lstOf, g0, strsOf_map, e, List.length_nil, Nat.mul_zero, Nat.add_zero]
      rw [if_pos (by omega), joinL_nil, rend_txt]
    simp only [e_meth1, e_c, Res.bind_ok, isStr, if_true, dVar, List.getElem?_cons_succ, List.getElem?_cons_zero, hj, ok_ok]
    refine ⟨⟨_, rfl⟩, txt_ok kk g, ?_⟩
    simp
end L01
set_option Elab.async false
set_option linter.all false
set_option maxRecDepth 100000
set_option maxHeartbeats 1000000
set_option autoImplicit false
namespace L01
open GH PySem
/-! the reader of texts, in plain words -/
abbrev Fr := Nat × Tx × List Sh
def mk (l : Tx) : List Sh → Sh
  | [c] => .one l c
  | [a, b] => .two l a b
  | _ => .nil
def fin (n : Int) (t : Tx) : List Fr → Sh → Nat → Option (List Fr × Sh × Nat)
  | [], d, p => some ([], d, p)
  | (i, l, cs) :: st, d, p =>
    if ((cs ++ [d]).length : Int) + 1 ≤ n then (if t[p]? = some 44 then some ((i, l, cs ++ [d]) :: st, .nil, p + 1) else none)
    else if n = 2 then (if t[p]? = some 41 then fin n t st (mk l (cs ++ [d])) (p + 1) else none)
    else fin n t st (mk l (cs ++ [d])) p
/-- m: how many lists were made -/
def sm (n : Int) (ls : List Tx) (t : Tx) : Nat → List Fr → Nat → Nat → Option (Sh × Nat)
  | 0, _, _, _ => none
  | f + 1, st, p, m => match t[p]? with
    | none => none
    | some c =>
      if [c] ∈ ls then (if n = 2 then (if t[p + 1]? = some 40 then sm n ls t f ((m, [c], []) :: st) (p + 2) (m + 1) else none) else sm n ls t f ((m, [c], []) :: st) (p + 1) (m + 1))
      else if c ≠ 46 then none
      else match fin n t st .nil (p + 1) with
        | none => none
        | some (st', d, p') => if st'.isEmpty then some (d, p') else sm n ls t f st' p' m
def rn (n : Int) : List Fr → Tx
  | [] => []
  | (_, l, cs) :: st => rn n st ++ l ++ (if n = 2 then [40] ++ cs.flatMap (fun c => c.txt ++ [44]) else [])
def WS (n : Int) (ls : List Tx) (st : List Fr) : Prop := ∀ q ∈ st, q.2.1 ∈ ls ∧ (q.2.2.length : Int) + 1 ≤ n ∧ ∀ c ∈ q.2.2, c.ok n ls
theorem take_next {t : Tx} {p c : Nat} (e : t[p]? = some c) : t.take (p + 1) = t.take p ++ [c] := by
  rw [List.take_add_one, e]
  rfl
theorem fin_sound {n : Int} {ls : List Tx} (kk : KOk n ls) {t : Tx} : ∀ (st : List Fr) (d : Sh) (p : Nat) {st' : List Fr} {d' : Sh} {p' : Nat}, WS n ls st → d.ok n ls → t.take p = rn n st ++ d.txt → p ≤ t.length → fin n t st d p = some (st', d', p') →
    WS n ls st' ∧ p' ≤ t.length ∧ p ≤ p' ∧ (st' = [] → d'.ok n ls ∧ t.take p' = d'.txt) ∧ (st' ≠ [] → d' = .nil ∧ t.take p' = rn n st')
  | [], d, p, st', d', p', ws, hd, ht, hp, e => by
    simp only [fin, Option.some.injEq, Prod.mk.injEq] at e
    obtain ⟨rfl, rfl, rfl⟩ := e
    exact ⟨ws, hp, Nat.le_refl _, fun _ => ⟨hd, by simpa [rn] using ht⟩, fun z => absurd rfl z⟩
  | (i, l, cs) :: st, d, p, st', d', p', ws, hd, ht, hp, e => by
    obtain ⟨w1, w2, w3⟩ := ws (i, l, cs) (List.mem_cons_self ..)
    simp only at w1 w2 w3
    have wst : WS n ls st := fun q hq => ws q (List.mem_cons_of_mem _ hq)
    have lt : ∀ c, t[p]? = some c → p + 1 ≤ t.length := fun c hc => by
      have := (List.getElem?_eq_some_iff.mp hc).1
      omega
    simp only [fin] at e
    split at e
    · rename_i h1
      split at e
      · rename_i h2
        simp only [Option.some.injEq, Prod.mk.injEq] at e
        obtain ⟨rfl, rfl, rfl⟩ := e
        have hn2 : n = 2 := by
          simp only [List.length_append, List.length_cons, List.length_nil] at h1
          rcases kk.n with rfl | rfl
          · omega
          · rfl
        refine ⟨fun q hq => ?_, lt _ h2, by omega, fun z => (by cases z), fun _ => ⟨rfl, ?_⟩⟩
        · rcases List.mem_cons.mp hq with rfl | hq
          · refine ⟨w1, h1, fun c hc => ?_⟩
            rcases List.mem_append.mp hc with hc | hc
            · exact w3 c hc
            · rw [List.mem_singleton.mp hc]; exact hd
          · exact wst q hq
        · rw [take_next h2, ht]
          simp [rn, hn2]
      · cases e
    · rename_i h1
      simp only [List.length_append, List.length_cons, List.length_nil] at h1
      split at e
      · rename_i hn2
        subst hn2
        split at e
        · rename_i h2
          have hl : cs.length = 1 := by omega
          obtain ⟨a, rfl⟩ := List.length_eq_one_iff.mp hl
          have ha := w3 a (by simp)
          have := fin_sound kk st (mk l ([a] ++ [d])) (p + 1) wst ⟨rfl, w1, ha, hd⟩ (by rw [take_next h2, ht]; simp [rn, mk, Sh.txt]) (lt _ h2) e
          exact ⟨this.1, this.2.1, by have := this.2.2.1; omega, this.2.2.2⟩
        · cases e
      · rename_i hn2
        have hn : n = 1 := kk.n.resolve_right hn2
        subst hn
        have hl : cs.length = 0 := by omega
        have hl := List.length_eq_zero_iff.mp hl
        subst hl
        exact fin_sound kk st (mk l ([] ++ [d])) p wst (by simp only [List.nil_append, mk]; exact ⟨rfl, w1, hd⟩) (by rw [ht]; simp [rn, mk, Sh.txt]) hp e
theorem sm_sound {n : Int} {ls : List Tx} (kk : KOk n ls) {t : Tx} : ∀ (f : Nat) (st : List Fr) (p m : Nat) {d : Sh} {p' : Nat}, WS n ls st → t.take p = rn n st → p ≤ t.length → sm n ls t f st p m = some (d, p') → d.ok n ls ∧ t.take p' = d.txt ∧ p' ≤ t.length
  | 0, _, _, _, _, _, _, _, _, e => by cases e
  | f + 1, st, p, m, d, p', ws, ht, hp, e => by
    simp only [sm] at e
    split at e
    · cases e
    · rename_i c hc
      have hlt : p + 1 ≤ t.length := by
        have := (List.getElem?_eq_some_iff.mp hc).1
        omega
      split at e
      · rename_i hin
        have ws' : WS n ls ((m, [c], []) :: st) := fun q hq => by
          rcases List.mem_cons.mp hq with rfl | hq
          · exact ⟨hin, by rcases kk.n with rfl | rfl <;> simp, by simp⟩
          · exact ws q hq
        split at e
        · rename_i hn2
          split at e
          · rename_i h2
            have hlt2 : p + 2 ≤ t.length := by
              have := (List.getElem?_eq_some_iff.mp h2).1
              omega
            exact sm_sound kk f _ (p + 2) _ ws' (by rw [show p + 2 = (p + 1) + 1 from rfl, take_next h2, take_next hc, ht]; simp [rn, hn2]) hlt2 e
          · cases e
        · rename_i hn2
          exact sm_sound kk f _ (p + 1) _ ws' (by rw [take_next hc, ht]; simp [rn, hn2]) hlt e
      · split at e
        · cases e
        · rename_i h46
          have h46 : c = 46 := by simpa using h46
          subst h46
          split at e
          · cases e
          · rename_i st' d1 p1 hf
            obtain ⟨a1, a2, a3, a4, a5⟩ := fin_sound kk st .nil (p + 1) ws trivial (by rw [take_next hc, ht]; rfl) hlt hf
            split at e
            · rename_i hemp
              simp only [Option.some.injEq, Prod.mk.injEq] at e
              obtain ⟨rfl, rfl⟩ := e
              obtain ⟨b1, b2⟩ := a4 (by simpa using hemp)
              exact ⟨b1, b2, a2⟩
            · rename_i hemp
              exact sm_sound kk f st' p1 m a1 (a5 (by simpa using hemp)).2 a2 e
/-- what may stand behind a shape that is read over st -/
def CL (n : Int) (ls : List Tx) : List Fr → Tx → Prop
  | [], _ => True
  | (_, _, cs) :: st, r => if n = 2 then (if cs.length = 0 then ∃ b r', Sh.ok n ls b ∧ r = [44] ++ b.txt ++ [41] ++ r' ∧ CL n ls st r' else ∃ r', r = [41] ++ r' ∧ CL n ls st r') else CL n ls st r
theorem drop_head {t : Tx} {p c : Nat} {r : Tx} (e : t.drop p = c :: r) : t[p]? = some c ∧ t.drop (p + 1) = r := by
  constructor
  · have := congrArg (fun l => l[0]?) e
    simpa using this
  · rw [← List.drop_drop, e]
    rfl
theorem fin_comp {n : Int} {ls : List Tx} (kk : KOk n ls) {t : Tx} : ∀ (st : List Fr) (d : Sh) (p : Nat) (r : Tx), d.ok n ls → WS n ls st → CL n ls st r → t.drop p = r → ∃ st' d' p', fin n t st d p = some (st', d', p') ∧ p ≤ p' ∧ (st' ≠ [] → ∃ b r', Sh.ok n ls b ∧ t.drop p' = b.txt ++ r' ∧ CL n ls st' r' ∧ WS n ls st')
  | [], d, p, r, hd, ws, hc, ht => ⟨[], d, p, rfl, Nat.le_refl _, fun z => absurd rfl z⟩
  | (i, l, cs) :: st, d, p, r, hd, ws, hc, ht => by
    obtain ⟨w1, w2, w3⟩ := ws (i, l, cs) (List.mem_cons_self ..)
    simp only at w1 w2 w3
    have wst : WS n ls st := fun q hq => ws q (List.mem_cons_of_mem _ hq)
    simp only [CL] at hc
    simp only [fin]
    by_cases hn2 : n = 2
    · subst hn2
      rw [if_pos rfl] at hc
      by_cases hl : cs.length = 0
      · rw [if_pos hl] at hc
        obtain ⟨b, r', hb, rfl, hc'⟩ := hc
        obtain ⟨e1, e2⟩ := drop_head (c := 44) (r := b.txt ++ [41] ++ r') (by rw [ht]; simp)
        rw [if_pos (by simp [hl]), if_pos e1]
        refine ⟨_, _, _, rfl, by omega, fun _ => ⟨b, [41] ++ r', hb, by rw [e2]; simp, ?_, fun q hq => ?_⟩⟩
        · simp only [CL, if_true]
          rw [if_neg (by simp)]
          exact ⟨r', rfl, hc'⟩
        · rcases List.mem_cons.mp hq with rfl | hq
          · refine ⟨w1, by simp [hl], fun c hc => ?_⟩
            rcases List.mem_append.mp hc with hc | hc
            · exact w3 c hc
            · rw [List.mem_singleton.mp hc]; exact hd
          · exact wst q hq
      · rw [if_neg hl] at hc
        obtain ⟨r', rfl, hc'⟩ := hc
        obtain ⟨e1, e2⟩ := drop_head (c := 41) (r := r') (by rw [ht]; simp)
        rw [if_neg (by simp; omega), if_pos rfl, if_pos e1]
        have hl1 : cs.length = 1 := by omega
        obtain ⟨a, rfl⟩ := List.length_eq_one_iff.mp hl1
        obtain ⟨st', d', p', h1, h2, h3⟩ := fin_comp kk st (mk l ([a] ++ [d])) (p + 1) r' ⟨rfl, w1, w3 a (by simp), hd⟩ wst hc' e2
        exact ⟨st', d', p', h1, by omega, h3⟩
    · have hn : n = 1 := kk.n.resolve_right hn2
      subst hn
      rw [if_neg (by simp)] at hc
      rw [if_neg (by simp; omega), if_neg (by simp)]
      have hl1 : cs.length = 0 := by omega
      have hl1 := List.length_eq_zero_iff.mp hl1
      subst hl1
      exact fin_comp kk st (mk l ([] ++ [d])) p r ⟨rfl, w1, hd⟩ wst hc ht
theorem sm_comp {n : Int} {ls : List Tx} (kk : KOk n ls) {t : Tx} : ∀ (f : Nat) (st : List Fr) (p m : Nat) (x : Sh) (r : Tx), x.ok n ls → WS n ls st → CL n ls st r → t.drop p = x.txt ++ r → t.length < p + f → ∃ d p', sm n ls t f st p m = some (d, p')
  | 0, st, p, m, x, r, hx, ws, hc, ht, hf => by
    have hl := congrArg List.length ht
    have hx0 : 0 < x.txt.length := by
      cases x with
      | nil => simp [Sh.txt]
      | one l c =>
        obtain ⟨y, rfl, _⟩ := kk.one l hx.2.1
        simp [Sh.txt]
      | two l a b => simp [Sh.txt]; omega
    simp only [List.length_drop, List.length_append] at hl
    omega
  | f + 1, st, p, m, x, r, hx, ws, hc, ht, hf => by
    simp only [sm]
    cases x with
    | nil =>
      obtain ⟨e1, e2⟩ := drop_head (c := 46) (r := r) (by rw [ht]; rfl)
      simp only [e1]
      have h46 : ([46] : Tx) ∉ ls := by rcases kk.l with rfl | rfl | rfl <;> decide
      rw [if_neg h46, if_neg (by simp)]
      obtain ⟨st', d', p', h1, h2, h3⟩ := fin_comp kk st .nil (p + 1) r trivial ws hc e2
      simp only [h1]
      by_cases hs : st' = []
      · subst hs
        exact ⟨d', p', rfl⟩
      · obtain ⟨b, r', hb, hd', hc', ws'⟩ := h3 hs
        rw [if_neg (by simpa using hs)]
        exact sm_comp kk f st' p' m b r' hb ws' hc' hd' (by omega)
    | one l c =>
      obtain ⟨hn, hl, hcok⟩ := hx
      subst hn
      obtain ⟨y, rfl, _⟩ := kk.one l hl
      obtain ⟨e1, e2⟩ := drop_head (c := y) (r := c.txt ++ r) (by rw [ht]; simp [Sh.txt])
      simp only [e1]
      rw [if_pos hl, if_neg (by simp)]
      refine sm_comp kk f _ (p + 1) _ c r hcok (fun q hq => ?_) (by simpa [CL] using hc) e2 (by omega)
      rcases List.mem_cons.mp hq with rfl | hq
      · exact ⟨hl, by simp, by simp⟩
      · exact ws q hq
    | two l a b =>
      obtain ⟨hn, hl, ha, hb⟩ := hx
      subst hn
      obtain ⟨y, rfl, _⟩ := kk.one l hl
      obtain ⟨e1, e2⟩ := drop_head (c := y) (r := [40] ++ (a.txt ++ ([44] ++ b.txt ++ [41] ++ r))) (by rw [ht]; simp [Sh.txt])
      obtain ⟨e3, e4⟩ := drop_head (c := 40) (r := a.txt ++ ([44] ++ b.txt ++ [41] ++ r)) (by rw [e2]; rfl)
      simp only [e1]
      rw [if_pos hl, if_pos trivial, if_pos e3]
      refine sm_comp kk f _ (p + 2) _ a ([44] ++ b.txt ++ [41] ++ r) ha (fun q hq => ?_) ?_ e4 (by omega)
      · rcases List.mem_cons.mp hq with rfl | hq
        · exact ⟨hl, by simp, by simp⟩
        · exact ws q hq
      · simp only [CL, if_true, List.length_nil]
        exact ⟨b, r, hb, rfl, hc⟩
/-- a text tells its shape -/
theorem txt_pre {n : Int} {ls : List Tx} (kk : KOk n ls) : ∀ (s d : Sh) (r r' : Tx), s.ok n ls → d.ok n ls → s.txt ++ r = d.txt ++ r' → s = d ∧ r = r'
  | .nil, .nil, r, r', _, _, e => by simpa [Sh.txt] using e
  | .nil, .one l c, r, r', _, h2, e => by
    obtain ⟨y, rfl, h3, _⟩ := kk.one l h2.2.1
    simp [Sh.txt] at e
    omega
  | .nil, .two l a b, r, r', _, h2, e => by
    obtain ⟨y, rfl, h3, _⟩ := kk.one l h2.2.1
    simp [Sh.txt] at e
    omega
  | .one l c, .nil, r, r', h1, _, e => by
    obtain ⟨y, rfl, h3, _⟩ := kk.one l h1.2.1
    simp [Sh.txt] at e
    omega
  | .two l a b, .nil, r, r', h1, _, e => by
    obtain ⟨y, rfl, h3, _⟩ := kk.one l h1.2.1
    simp [Sh.txt] at e
    omega
  | .one l c, .two l' a b, r, r', h1, h2, e => by have := h1.1; have := h2.1; omega
  | .two l' a b, .one l c, r, r', h1, h2, e => by have := h1.1; have := h2.1; omega
  | .one l c, .one l' c', r, r', h1, h2, e => by
    obtain ⟨y, rfl, _⟩ := kk.one l h1.2.1
    obtain ⟨y', rfl, _⟩ := kk.one l' h2.2.1
    simp only [Sh.txt, List.cons_append, List.nil_append, List.cons.injEq] at e
    obtain ⟨rfl, e⟩ := e
    obtain ⟨rfl, rfl⟩ := txt_pre kk c c' r r' h1.2.2 h2.2.2 e
    exact ⟨rfl, rfl⟩
  | .two l a b, .two l' a' b', r, r', h1, h2, e => by
    obtain ⟨y, rfl, _⟩ := kk.one l h1.2.1
    obtain ⟨y', rfl, _⟩ := kk.one l' h2.2.1
    simp only [Sh.txt, List.cons_append, List.nil_append, List.append_assoc, List.cons.injEq, true_and] at e
    obtain ⟨rfl, e⟩ := e
    obtain ⟨rfl, e2⟩ := txt_pre kk a a' _ _ h1.2.2.1 h2.2.2.1 e
    have e3 := (List.cons.inj e2).2
    obtain ⟨rfl, e4⟩ := txt_pre kk b b' _ _ h1.2.2.2 h2.2.2.2 e3
    exact ⟨rfl, (List.cons.inj e4).2⟩
def rd (n : Int) (ls : List Tx) (t : Tx) : Option Sh := match sm n ls t (t.length + 1) [] 0 0 with
  | some (d, p) => if p < t.length then none else some d
  | none => none
theorem rd_sound {n : Int} {ls : List Tx} (kk : KOk n ls) {t : Tx} {d : Sh} (e : rd n ls t = some d) : d.ok n ls ∧ d.txt = t := by
  unfold rd at e
  split at e
  · rename_i d' p hs
    split at e
    · cases e
    · rename_i hp
      cases e
      obtain ⟨a, b, c⟩ := sm_sound kk _ [] 0 0 (fun q hq => by cases hq) rfl (Nat.zero_le _) hs
      rw [List.take_of_length_le (by omega)] at b
      exact ⟨a, b.symm⟩
  · cases e
theorem rd_txt {n : Int} {ls : List Tx} (kk : KOk n ls) {s : Sh} (h : s.ok n ls) : rd n ls s.txt = some s := by
  obtain ⟨d, p, e⟩ := sm_comp kk (t := s.txt) (s.txt.length + 1) [] 0 0 s [] h (fun q hq => by cases hq) trivial (by simp) (by omega)
  obtain ⟨a, b, c⟩ := sm_sound kk _ [] 0 0 (fun q hq => by cases hq) rfl (Nat.zero_le _) e
  have q : s.txt ++ [] = d.txt ++ s.txt.drop p := by
    rw [← b, List.take_append_drop]
    simp
  obtain ⟨rfl, q2⟩ := txt_pre kk s d _ _ h a q
  unfold rd
  simp only [e]
  have := congrArg List.length q2
  simp only [List.length_nil, List.length_drop] at this
  rw [if_neg (by omega)]
end L01
set_option Elab.async false
set_option linter.all false
set_option maxRecDepth 100000
set_option maxHeartbeats 1000000
set_option autoImplicit false
namespace L01
open GH PySem
/-! the reader of the program -/
abbrev SR : Tx := [83, 104, 97, 112, 101, 82, 101, 97, 100, 101, 114]
abbrev IS : Tx := [73, 110, 118, 97, 108, 105, 100, 83, 104, 97, 112, 101]
def rob (n : Int) (ls : List Tx) (t : Tx) (p : Nat) : Ob := .ins SR [([119, 97, 121, 115], .int n), ([108, 97, 98, 101, 108, 115], .tup (ls.map .str)), ([116, 101, 120, 116], .str t), ([97, 116], .int p)]
section
variable {n : Int} {ls : List Tx} {t : Tx} {p j i : Nat} {h : Hv} {l : GH.Loc}
theorem ins_of (hj : h[j]? = some (rob n ls t p)) : insOf SR h (.ref j) = some (j, [([119, 97, 121, 115], .int n), ([108, 97, 98, 101, 108, 115], .tup (ls.map .str)), ([116, 101, 120, 116], .str t), ([97, 116], .int p)]) := by
  unfold insOf
  simp only [hj, rob, if_true]
theorem f_ways (hl : l[i]? = some (some (.ref j))) (hj : h[j]? = some (rob n ls t p)) : dFld SR [119, 97, 121, 115] (dVar i) l h = .ok (.int n) h := by
  simp only [dFld, dVar, hl, Res.bind_ok, ins_of hj]
  rfl
theorem f_labels (hl : l[i]? = some (some (.ref j))) (hj : h[j]? = some (rob n ls t p)) : dFld SR [108, 97, 98, 101, 108, 115] (dVar i) l h = .ok (.tup (ls.map .str)) h := by
  simp only [dFld, dVar, hl, Res.bind_ok, ins_of hj]
  rfl
theorem f_text (hl : l[i]? = some (some (.ref j))) (hj : h[j]? = some (rob n ls t p)) : dFld SR [116, 101, 120, 116] (dVar i) l h = .ok (.str t) h := by
  simp only [dFld, dVar, hl, Res.bind_ok, ins_of hj]
  rfl
theorem f_at (hl : l[i]? = some (some (.ref j))) (hj : h[j]? = some (rob n ls t p)) : dFld SR [97, 116] (dVar i) l h = .ok (.int p) h := by
  simp only [dFld, dVar, hl, Res.bind_ok, ins_of hj]
  rfl
theorem f_aug (hl : l[i]? = some (some (.ref j))) (hj : h[j]? = some (rob n ls t p)) : sFldAug SR [97, 116] (dVar i) (dC (.int 1)) l h = .nx l (h.set j (rob n ls t (p + 1))) := by
  simp only [sFldAug, dVar, hl, Res.to_ok, ins_of hj, e_c]
  rfl
theorem mth_ {m : Tx} {DD : DF} {r : DenG (List Val)} {vs : List Val} (hl : l[i]? = some (some (.ref j))) (hj : h[j]? = some (rob n ls t p)) (hr : r l h = .ok vs h)
    (hm : m ≠ [119, 97, 121, 115] ∧ m ≠ [108, 97, 98, 101, 108, 115] ∧ m ≠ [116, 101, 120, 116] ∧ m ≠ [97, 116] := by decide) : dMth SR m DD (dVar i) r l h = DD (.ref j :: vs) h := by
  simp only [dMth, dVar, hl, Res.bind_ok, ins_of hj, fget, if_neg (Ne.symm hm.1), if_neg (Ne.symm hm.2.1), if_neg (Ne.symm hm.2.2.1), if_neg (Ne.symm hm.2.2.2), hr]
theorem ix_str {c : Nat} (ht : t.length ≤ 100000) (e : t[p]? = some c) : vIx (.str t) (.int p) h = .ok (.str [c]) h := by
  simp only [vIx]
  rw [if_pos (show t.length ≤ lineN by unfold lineN; omega), nth_nat e]
theorem sign_a (ht : t.length ≤ 100000) {k : Nat} (hj : h[j]? = some (rob n ls t p)) : lev D (k + 1) 28 [.ref j] h = match t[p]? with
    | some c => .ok (.str [c]) (h.set j (rob n ls t (p + 1)))
    | none => .exc ⟨IS, []⟩ h := by
  show runDef 1 (b_ShapeReader_sign (lev D k)) [.ref j] h = _
  have hl : ([some (.ref j)] : GH.Loc)[0]? = some (some (.ref j)) := rfl
  have hlen : vLen (.str t) h = .ok (.int t.length) h := by
    simp only [vLen]
    rw [if_pos (show t.length ≤ lineN by unfold lineN; omega)]
  have c1 : dB (dBin vGe (dFld SR [97, 116] (dVar 0)) (dLen (dFld SR [116, 101, 120, 116] (dVar 0)))) [some (.ref j)] h = .ok (decide (t.length ≤ p)) h := by
    simp only [e_b, e_bin, e_len, f_at hl hj, f_text hl hj, Res.bind_ok, hlen]
    simp
  have run : b_ShapeReader_sign (lev D k) [some (.ref j)] h = match t[p]? with
      | some c => .rt (.str [c]) (h.set j (rob n ls t (p + 1)))
      | none => .exc ⟨IS, []⟩ [some (.ref j)] h := by
    unfold b_ShapeReader_sign
    rw [raise_if c1]
    cases e : t[p]? with
    | none =>
      rw [if_pos (by simpa using List.getElem?_eq_none_iff.mp e)]
    | some c =>
      have hp := (List.getElem?_eq_some_iff.mp e).1
      rw [if_neg (by simpa using hp), e_seq, f_aug hl hj]
      have hj' : (h.set j (rob n ls t (p + 1)))[j]? = some (rob n ls t (p + 1)) := by
        rw [List.getElem?_set_self]
        exact (List.getElem?_eq_some_iff.mp hj).1
      simp only [SRes.andThen_nx, e_seq, e_ret, e_bin, f_at hl hj', f_text hl hj', Res.bind_ok, e_c]
      have hs : vSub (.int ((p + 1 : Nat) : Int)) (.int 1) (h.set j (rob n ls t (p + 1))) = .ok (.int p) (h.set j (rob n ls t (p + 1))) := by
        simp [vSub]
      simp only [hs, Res.bind_ok, ix_str ht e, Res.to_ok, SRes.andThen_rt]
  cases e : t[p]? with
  | none => rw [e] at run; exact run_exc run
  | some c => rw [e] at run; exact run_rt run
theorem ne_str (a b : Tx) (h : Hv) : vNe (.str a) (.str b) h = .ok (.bl (decide (a ≠ b))) h := by
  simp [vNe]
theorem take_a (ht : t.length ≤ 100000) {k c : Nat} (hj : h[j]? = some (rob n ls t p)) : (t[p]? = some c → lev D (k + 2) 29 [.ref j, .str [c]] h = .ok .non (h.set j (rob n ls t (p + 1)))) ∧
    (t[p]? ≠ some c → lev D (k + 2) 29 [.ref j, .str [c]] h = .exc ⟨IS, []⟩ (if p < t.length then h.set j (rob n ls t (p + 1)) else h)) := by
  have hl : ([some (.ref j), some (.str [c])] : GH.Loc)[0]? = some (some (.ref j)) := rfl
  have hm := sign_a ht (k := k) hj
  have e1 : dMth SR [115, 105, 103, 110] (lev D (k + 1) 28) (dVar 0) dNil [some (.ref j), some (.str [c])] h = _ := (mth_ hl hj (e_nil ..)).trans hm
  cases e : t[p]? with
  | none =>
    have hp : ¬ p < t.length := by
      have := List.getElem?_eq_none_iff.mp e
      omega
    refine ⟨fun z => (by cases z), fun _ => ?_⟩
    rw [e] at e1
    simp only at e1
    rw [if_neg hp]
    show runDef 2 (b_ShapeReader_take (lev D (k + 1))) [.ref j, .str [c]] h = _
    have run : b_ShapeReader_take (lev D (k + 1)) [some (.ref j), some (.str [c])] h = .exc ⟨IS, []⟩ [some (.ref j), some (.str [c])] h := by
      unfold b_ShapeReader_take
      simp only [e_seq, e_if, e_b, e_bin, e1, Res.bind_exc, resB, Res.to_exc, SRes.andThen_exc]
    exact run_exc run
  | some c' =>
    have hp : p < t.length := (List.getElem?_eq_some_iff.mp e).1
    rw [e] at e1
    simp only at e1
    have c1 : dB (dBin vNe (dMth SR [115, 105, 103, 110] (lev D (k + 1) 28) (dVar 0) dNil) (dVar 1)) [some (.ref j), some (.str [c])] h = .ok (decide (c' ≠ c)) (h.set j (rob n ls t (p + 1))) := by
      simp only [e_b, e_bin, e1, Res.bind_ok, dVar, List.getElem?_cons_succ, List.getElem?_cons_zero, ne_str, resB_bl]
      simp
    have run : b_ShapeReader_take (lev D (k + 1)) [some (.ref j), some (.str [c])] h = if c' = c then .nx [some (.ref j), some (.str [c])] (h.set j (rob n ls t (p + 1))) else .exc ⟨IS, []⟩ [some (.ref j), some (.str [c])] (h.set j (rob n ls t (p + 1))) := by
      unfold b_ShapeReader_take
      rw [e_seq, e_if, c1]
      by_cases hc : c' = c
      · simp [hc]
      · simp [hc, sRaise, IS]
    refine ⟨fun z => ?_, fun z => ?_⟩
    · have hc : c' = c := by simpa using z
      rw [if_pos hc] at run
      exact run_nx run
    · have hc : ¬ c' = c := by simpa using z
      rw [if_neg hc] at run
      rw [if_pos hp]
      exact run_exc run
end
end L01
set_option Elab.async false
set_option linter.all false
set_option maxRecDepth 100000
set_option maxHeartbeats 1000000
set_option autoImplicit false
namespace L01
open GH PySem
def refs (N : Nat) (st : List Fr) : List Val := st.reverse.map fun q => .ref (N + 2 + q.1)
def hp (h0 : Hv) (n : Int) (ls : List Tx) (t : Tx) (p : Nat) (st : List Fr) (G : Hv) : Hv := h0 ++ (rob n ls t p :: .lst (refs h0.length st) :: G)
structure FH (G : Hv) (st : List Fr) : Prop where
  at_ : ∀ q ∈ st, G[q.1]? = some (.lst (.str q.2.1 :: q.2.2.map Sh.val))
  nd : (st.map (·.1)).Nodup
section
variable {h0 : Hv} {n : Int} {ls : List Tx} {t : Tx} {p p' : Nat} {st st' : List Fr} {G : Hv} {o : Ob} {i : Nat}
theorem hp_r : (hp h0 n ls t p st G)[h0.length]? = some (rob n ls t p) := by simp [hp]
theorem hp_a : (hp h0 n ls t p st G)[h0.length + 1]? = some (.lst (refs h0.length st)) := by
  unfold hp
  rw [List.getElem?_append_right (by omega)]; simp
theorem hp_f : (hp h0 n ls t p st G)[h0.length + 2 + i]? = G[i]? := by
  unfold hp
  rw [List.getElem?_append_right (by omega), show h0.length + 2 + i - h0.length = i + 2 by omega]; simp
theorem set_r : (hp h0 n ls t p st G).set h0.length (rob n ls t p') = hp h0 n ls t p' st G := by simp [hp]
theorem set_a : (hp h0 n ls t p st G).set (h0.length + 1) (.lst (refs h0.length st')) = hp h0 n ls t p st' G := by
  unfold hp
  rw [List.set_append_right _ _ (by omega)]; simp
theorem set_f : (hp h0 n ls t p st G).set (h0.length + 2 + i) o = hp h0 n ls t p st (G.set i o) := by
  unfold hp
  rw [List.set_append_right _ _ (by omega), show h0.length + 2 + i - h0.length = i + 2 by omega]; simp
theorem refs_cons (N : Nat) (q : Fr) (st : List Fr) : refs N (q :: st) = refs N st ++ [.ref (N + 2 + q.1)] := by simp [refs]
theorem refs_len (N : Nat) (st : List Fr) : (refs N st).length = st.length := by simp [refs]
end
noncomputable def fBody (Γ : Gam) : Stm := (sSeq (sExpr (dMeth1 isLst vAppend (dBin vIx (dVar 1) (dNeg (dC (.int 1)))) (dVar 2)))
    (sSeq (sIf (dB (dBin vLe (dLen (dBin vIx (dVar 1) (dNeg (dC (.int 1))))) (dFld [83, 104, 97, 112, 101, 82, 101, 97, 100, 101, 114] [119, 97, 121, 115] (dVar 0)))) (sSeq (sExpr (dMth [83, 104, 97, 112, 101, 82, 101, 97, 100, 101, 114] [116, 97, 107, 101] (Γ 29) (dVar 0) (dCons (dC (.str [44])) dNil)))
    (sSeq (sRet (dTup dNil))
    sNext)) sNext)
    (sSeq (sIf (dB (dBin vEq (dFld [83, 104, 97, 112, 101, 82, 101, 97, 100, 101, 114] [119, 97, 121, 115] (dVar 0)) (dC (.int 2)))) (sSeq (sExpr (dMth [83, 104, 97, 112, 101, 82, 101, 97, 100, 101, 114] [116, 97, 107, 101] (Γ 29) (dVar 0) (dCons (dC (.str [41])) dNil)))
    sNext) sNext)
    (sSeq (sAsg (dFn vTuple (dMeth0 isLst vPop (dVar 1))) (gName 2))
    sNext))))
noncomputable def fLoop (Γ : Gam) : Stm := sSeq (sWhile (dTru (dVar 1)) (fBody Γ)) (sSeq (sRet (dVar 2)) sNext)
theorem if_t {tt : DenG Bool} {a b rest : Stm} {l : GH.Loc} {h h1 : Hv} (e : tt l h = .ok true h1) : sSeq (sIf tt a b) rest l h = (a l h1).andThen rest := by
  rw [e_seq, e_if, e]
  rfl
theorem if_f {tt : DenG Bool} {a rest : Stm} {l : GH.Loc} {h h1 : Hv} (e : tt l h = .ok false h1) : sSeq (sIf tt a sNext) rest l h = rest l h1 := by
  rw [e_seq, e_if, e]
  rfl
theorem nd_at {G : Hv} {st : List Fr} {i : Nat} {l : Tx} {cs : List Sh} (f : FH G ((i, l, cs) :: st)) (o : Ob) : FH (G.set i o) st := by
  have nd := f.nd
  simp only [List.map_cons, List.nodup_cons] at nd
  refine ⟨fun q hq => ?_, nd.2⟩
  have : i ≠ q.1 := fun z => nd.1 (List.mem_map.mpr ⟨q, hq, z.symm⟩)
  rw [List.getElem?_set_ne this]
  exact f.at_ q (List.mem_cons_of_mem _ hq)
theorem ix_last {N i : Nat} {L : List Val} {h : Hv} {v : Val} (e : h[i]? = some (.lst (L ++ [v]))) : vIx (.ref i) (.int (-1)) h = .ok v h := by
  simp only [vIx, seqOf, lstOf, e, nth]
  have e1 : ¬ (0 : Int) ≤ -1 := by omega
  rw [if_neg e1, if_pos (by simp; omega)]
  have : ((-1 : Int) + ((L ++ [v]).length : Nat)).toNat = L.length := by simp; omega
  rw [this]
  simp
/-- the loop of finish -/
theorem fin_a {h0 : Hv} {n : Int} {ls : List Tx} (kk : KOk n ls) {t : Tx} (ht : t.length ≤ 100000) {k : Nat} : ∀ (st : List Fr) (d : Sh) (p : Nat) (G : Hv), FH G st → WS n ls st →
    (∀ st' d' p', fin n t st d p = some (st', d', p') → ∃ G', FH G' st' ∧ G'.length = G.length ∧ fLoop (lev D (k + 2)) [some (.ref h0.length), some (.ref (h0.length + 1)), some d.val] (hp h0 n ls t p st G) = .rt d'.val (hp h0 n ls t p' st' G')) ∧
    (fin n t st d p = none → ∃ l g, fLoop (lev D (k + 2)) [some (.ref h0.length), some (.ref (h0.length + 1)), some d.val] (hp h0 n ls t p st G) = .exc ⟨IS, []⟩ l (h0 ++ g))
  | [], d, p, G, fh, ws => by
    refine ⟨fun st' d' p' e => ?_, fun e => by cases e⟩
    simp only [fin, Option.some.injEq, Prod.mk.injEq] at e
    obtain ⟨rfl, rfl, rfl⟩ := e
    refine ⟨G, fh, rfl, ?_⟩
    unfold fLoop
    rw [e_seq, sWhile_eq]
    simp only [e_tru, dVar, List.getElem?_cons_succ, List.getElem?_cons_zero, Res.bind_ok, tru_ref hp_a, Res.to_ok]
    rw [if_neg (by simp [refs])]
    simp [dVar]
  | (i, l, cs) :: st, d, p, G, fh, ws => by
    obtain ⟨w1, w2, w3⟩ := ws (i, l, cs) (List.mem_cons_self ..)
    simp only at w1 w2 w3
    have wst : WS n ls st := fun q hq => ws q (List.mem_cons_of_mem _ hq)
    have hi := fh.at_ (i, l, cs) (List.mem_cons_self ..)
    simp only at hi
    have hiG : i < G.length := (List.getElem?_eq_some_iff.mp hi).1
    have hn2 : n ≤ 2 := by rcases kk.n with rfl | rfl <;> omega
    have hF : (hp h0 n ls t p ((i, l, cs) :: st) G)[h0.length + 2 + i]? = some (.lst (.str l :: cs.map Sh.val)) := by rw [hp_f]; exact hi
    have hlast : ∀ (G' : Hv), vIx (.ref (h0.length + 1)) (.int (-1)) (hp h0 n ls t p ((i, l, cs) :: st) G') = .ok (.ref (h0.length + 2 + i)) (hp h0 n ls t p ((i, l, cs) :: st) G') := fun G' =>
      ix_last (N := 0) (L := refs h0.length st) (by rw [hp_a, refs_cons])
    have hG2 : (G.set i (.lst (.str l :: (cs ++ [d]).map Sh.val)))[i]? = some (.lst (.str l :: (cs ++ [d]).map Sh.val)) := by
      rw [List.getElem?_set_self hiG]
    generalize hGe : G.set i (.lst (.str l :: (cs ++ [d]).map Sh.val)) = G2 at hG2
    have hl0 : ∀ x, ([some (.ref h0.length), some (.ref (h0.length + 1)), x] : GH.Loc)[0]? = some (some (.ref h0.length)) := fun x => rfl
    have st1 : fLoop (lev D (k + 2)) [some (.ref h0.length), some (.ref (h0.length + 1)), some d.val] (hp h0 n ls t p ((i, l, cs) :: st) G)
        = (((sSeq (sIf (dB (dBin vLe (dLen (dBin vIx (dVar 1) (dNeg (dC (.int 1))))) (dFld [83, 104, 97, 112, 101, 82, 101, 97, 100, 101, 114] [119, 97, 121, 115] (dVar 0)))) (sSeq (sExpr (dMth [83, 104, 97, 112, 101, 82, 101, 97, 100, 101, 114] [116, 97, 107, 101] (lev D (k + 2) 29) (dVar 0) (dCons (dC (.str [44])) dNil)))
    (sSeq (sRet (dTup dNil))
    sNext)) sNext)
    (sSeq (sIf (dB (dBin vEq (dFld [83, 104, 97, 112, 101, 82, 101, 97, 100, 101, 114] [119, 97, 121, 115] (dVar 0)) (dC (.int 2)))) (sSeq (sExpr (dMth [83, 104, 97, 112, 101, 82, 101, 97, 100, 101, 114] [116, 97, 107, 101] (lev D (k + 2) 29) (dVar 0) (dCons (dC (.str [41])) dNil)))
    sNext) sNext)
    (sSeq (sAsg (dFn vTuple (dMeth0 isLst vPop (dVar 1))) (gName 2))
    sNext))) [some (.ref h0.length), some (.ref (h0.length + 1)), some d.val] (hp h0 n ls t p ((i, l, cs) :: st) G2)).turn (sWhile (dTru (dVar 1)) (fBody (lev D (k + 2))))).andThen (sSeq (sRet (dVar 2)) sNext) := by
      show sSeq _ _ _ _ = _
      rw [e_seq, sWhile_eq]
      simp only [e_tru, dVar, List.getElem?_cons_succ, List.getElem?_cons_zero, Res.bind_ok, tru_ref hp_a, Res.to_ok]
      rw [if_pos (by simp [refs])]
      congr 2
      unfold fBody
      refine expr_eq (v := .non) ?_
      simp only [e_meth1, e_bin, dVar, List.getElem?_cons_succ, List.getElem?_cons_zero, Res.bind_ok, e_neg, hlast, isLst_ref hF, if_true]
      rw [append_ref hF (by simp; omega), set_f, ← hGe]
      simp
    have lenE : vLen (.ref (h0.length + 2 + i)) (hp h0 n ls t p ((i, l, cs) :: st) G2) = .ok (.int ((cs.length + 2 : Nat) : Int)) (hp h0 n ls t p ((i, l, cs) :: st) G2) := by
      rw [len_ref (l := .str l :: (cs ++ [d]).map Sh.val) (by rw [hp_f]; exact hG2)]
      simp
      omega
    have c1 : dB (dBin vLe (dLen (dBin vIx (dVar 1) (dNeg (dC (.int 1))))) (dFld [83, 104, 97, 112, 101, 82, 101, 97, 100, 101, 114] [119, 97, 121, 115] (dVar 0))) [some (.ref h0.length), some (.ref (h0.length + 1)), some d.val] (hp h0 n ls t p ((i, l, cs) :: st) G2)
        = .ok (decide (((cs ++ [d]).length : Int) + 1 ≤ n)) (hp h0 n ls t p ((i, l, cs) :: st) G2) := by
      simp only [e_b, e_bin, e_len, dVar, List.getElem?_cons_succ, List.getElem?_cons_zero, Res.bind_ok, e_neg, hlast, lenE, f_ways (hl0 _) hp_r]
      simp
      omega
    have c2 : ∀ h1, h1 = hp h0 n ls t p ((i, l, cs) :: st) G2 → dB (dBin vEq (dFld [83, 104, 97, 112, 101, 82, 101, 97, 100, 101, 114] [119, 97, 121, 115] (dVar 0)) (dC (.int 2))) [some (.ref h0.length), some (.ref (h0.length + 1)), some d.val] h1 = .ok (decide (n = 2)) h1 := by
      rintro _ rfl
      simp only [e_b, e_bin, Res.bind_ok, e_c, f_ways (hl0 _) hp_r]
      simp
    have fh2 : FH G2 st := hGe ▸ nd_at fh _
    have hG2l : G2.length = G.length := by rw [← hGe]; simp
    rw [st1]
    simp only [fin]
    have excH : ∀ (q : Nat), ∃ g, (if p < t.length then (hp h0 n ls t p ((i, l, cs) :: st) G2).set h0.length (rob n ls t (p + 1)) else hp h0 n ls t p ((i, l, cs) :: st) G2) = h0 ++ g := fun _ => by
      split
      · rw [set_r]; exact ⟨_, rfl⟩
      · exact ⟨_, rfl⟩
    by_cases h1 : ((cs ++ [d]).length : Int) + 1 ≤ n
    · rw [if_pos h1, if_t (h1 := hp h0 n ls t p ((i, l, cs) :: st) G2) (by rw [c1]; simp only [h1, decide_true])]
      obtain ⟨t1, t2⟩ := take_a (n := n) (ls := ls) ht (k := k) (c := 44) (j := h0.length) (h := hp h0 n ls t p ((i, l, cs) :: st) G2) hp_r
      have m1 := mth_ (m := [116, 97, 107, 101]) (DD := lev D (k + 2) 29) (r := dCons (dC (.str [44])) dNil) (vs := [.str [44]]) (hl0 (some d.val)) (hp_r (h0 := h0) (n := n) (ls := ls) (t := t) (p := p) (st := (i, l, cs) :: st) (G := G2)) (by simp)
      by_cases hc : t[p]? = some 44
      · rw [if_pos hc]
        refine ⟨fun st' d' p' e => ?_, fun e => by cases e⟩
        simp only [Option.some.injEq, Prod.mk.injEq] at e
        obtain ⟨rfl, rfl, rfl⟩ := e
        refine ⟨G2, ⟨fun q hq => ?_, fh.nd⟩, hG2l, ?_⟩
        · rcases List.mem_cons.mp hq with rfl | hq
          · exact hG2
          · exact fh2.at_ q hq
        · rw [expr_eq (m1.trans (t1 hc)), set_r]
          simp [mkT_ok, Sh.val, hp, refs]
      · rw [if_neg hc]
        refine ⟨fun st' d' p' e => (by cases e), fun _ => ?_⟩
        rw [expr_ex (m1.trans (t2 hc))]
        obtain ⟨g, hg⟩ := excH 0
        rw [hg]
        exact ⟨_, g, rfl⟩
    · rw [if_neg h1, if_f (h1 := hp h0 n ls t p ((i, l, cs) :: st) G2) (by rw [c1]; simp only [h1, decide_false])]
      have hlen : (cs.length : Int) + 1 = n := by
        simp only [List.length_append, List.length_cons, List.length_nil] at h1
        omega
      have hv : Val.tup (.str l :: (cs ++ [d]).map Sh.val) = (mk l (cs ++ [d])).val := by
        match cs, hlen with
        | [], _ => rfl
        | [a], _ => rfl
        | a :: b :: r, z => simp only [List.length_cons] at z; omega
      have pop : ∀ (p : Nat), sSeq (sAsg (dFn vTuple (dMeth0 isLst vPop (dVar 1))) (gName 2)) sNext [some (.ref h0.length), some (.ref (h0.length + 1)), some d.val] (hp h0 n ls t p ((i, l, cs) :: st) G2)
          = .nx [some (.ref h0.length), some (.ref (h0.length + 1)), some (mk l (cs ++ [d])).val] (hp h0 n ls t p st G2) := fun p => by
        have e1 : vPop (.ref (h0.length + 1)) (hp h0 n ls t p ((i, l, cs) :: st) G2) = .ok (.ref (h0.length + 2 + i)) (hp h0 n ls t p st G2) := by
          rw [pop_ref (l := refs h0.length st) (by rw [hp_a, refs_cons]), set_a]
        have e2 : vTuple (.ref (h0.length + 2 + i)) (hp h0 n ls t p st G2) = .ok (mk l (cs ++ [d])).val (hp h0 n ls t p st G2) := by
          simp only [vTuple, seqOf, lstOf, hp_f, hG2, ← hv]
        simp only [e_seq, e_asg, e_fn, e_meth0, dVar, List.getElem?_cons_succ, List.getElem?_cons_zero, Res.bind_ok, isLst_ref hp_a, if_true, e1, e2, Res.to_ok, e_name, TRes.s_ok, SRes.andThen_nx, e_next, List.set_cons_succ, List.set_cons_zero]
      by_cases hnn : n = 2
      · rw [if_pos hnn, if_t (h1 := hp h0 n ls t p ((i, l, cs) :: st) G2) (by rw [c2 _ rfl]; simp only [hnn, decide_true])]
        obtain ⟨t1, t2⟩ := take_a (n := n) (ls := ls) ht (k := k) (c := 41) (j := h0.length) (h := hp h0 n ls t p ((i, l, cs) :: st) G2) hp_r
        have m1 := mth_ (m := [116, 97, 107, 101]) (DD := lev D (k + 2) 29) (r := dCons (dC (.str [41])) dNil) (vs := [.str [41]]) (hl0 (some d.val)) (hp_r (h0 := h0) (n := n) (ls := ls) (t := t) (p := p) (st := (i, l, cs) :: st) (G := G2)) (by simp)
        by_cases hc : t[p]? = some 41
        · rw [if_pos hc, expr_eq (m1.trans (t1 hc)), set_r]
          simp only [e_next, SRes.andThen_nx, pop, SRes.turn_nx]
          have ih := fin_a kk ht (k := k) (h0 := h0) st (mk l (cs ++ [d])) (p + 1) G2 fh2 wst
          refine ⟨fun st' d' p' e => ?_, fun e => ?_⟩
          · obtain ⟨G', a, b, c⟩ := ih.1 st' d' p' e
            exact ⟨G', a, b.trans hG2l, c⟩
          · exact ih.2 e
        · rw [if_neg hc]
          refine ⟨fun st' d' p' e => (by cases e), fun _ => ?_⟩
          rw [expr_ex (m1.trans (t2 hc))]
          obtain ⟨g, hg⟩ := excH 0
          rw [hg]
          exact ⟨_, g, rfl⟩
      · rw [if_neg hnn, if_f (h1 := hp h0 n ls t p ((i, l, cs) :: st) G2) (by rw [c2 _ rfl]; simp only [hnn, decide_false])]
        simp only [pop, SRes.turn_nx]
        have ih := fin_a kk ht (k := k) (h0 := h0) st (mk l (cs ++ [d])) p G2 fh2 wst
        refine ⟨fun st' d' p' e => ?_, fun e => ?_⟩
        · obtain ⟨G', a, b, c⟩ := ih.1 st' d' p' e
          exact ⟨G', a, b.trans hG2l, c⟩
        · exact ih.2 e
end L01
set_option Elab.async false
set_option linter.all false
set_option maxRecDepth 100000
set_option maxHeartbeats 1000000
set_option autoImplicit false
namespace L01
open GH PySem
theorem asg_ex {d : Den} {t : Tg} {rest : Stm} {l : GH.Loc} {h h1 : Hv} {x : Ex} (e : d l h = .exc x h1) : sSeq (sAsg d t) rest l h = .exc x l h1 := by
  rw [e_seq, e_asg, e]
  rfl
noncomputable def sBody (Γ : Gam) : Stm := (sSeq (sAsg (dMth [83, 104, 97, 112, 101, 82, 101, 97, 100, 101, 114] [115, 105, 103, 110] (Γ 28) (dVar 0) dNil) (gName 2))
    (sSeq (sIf (dB (dBin vIn (dVar 2) (dFld [83, 104, 97, 112, 101, 82, 101, 97, 100, 101, 114] [108, 97, 98, 101, 108, 115] (dVar 0)))) (sSeq (sExpr (dMeth1 isLst vAppend (dVar 1) (dLstM (dCons (dVar 2) dNil))))
    (sSeq (sIf (dB (dBin vEq (dFld [83, 104, 97, 112, 101, 82, 101, 97, 100, 101, 114] [119, 97, 121, 115] (dVar 0)) (dC (.int 2)))) (sSeq (sExpr (dMth [83, 104, 97, 112, 101, 82, 101, 97, 100, 101, 114] [116, 97, 107, 101] (Γ 29) (dVar 0) (dCons (dC (.str [40])) dNil)))
    sNext) sNext)
    (sSeq sCont
    sNext))) sNext)
    (sSeq (sIf (dB (dBin vNe (dVar 2) (dC (.str [46])))) (sSeq (sRaise [73, 110, 118, 97, 108, 105, 100, 83, 104, 97, 112, 101])
    sNext) sNext)
    (sSeq (sAsg (dMth [83, 104, 97, 112, 101, 82, 101, 97, 100, 101, 114] [102, 105, 110, 105, 115, 104] (Γ 31) (dVar 0) (dCons (dVar 1) (dCons (dTup dNil) dNil))) (gName 3))
    (sSeq (sIf (dNot (dTru (dVar 1))) (sSeq (sRet (dVar 3))
    sNext) sNext)
    sNext)))))
theorem finish_a {h0 : Hv} {n : Int} {ls : List Tx} (kk : KOk n ls) {t : Tx} (ht : t.length ≤ 100000) {k : Nat} (st : List Fr) (p : Nat) (G : Hv) (fh : FH G st) (ws : WS n ls st) :
    (∀ st' d' p', fin n t st .nil p = some (st', d', p') → ∃ G', FH G' st' ∧ G'.length = G.length ∧ lev D (k + 3) 31 [.ref h0.length, .ref (h0.length + 1), .tup []] (hp h0 n ls t p st G) = .ok d'.val (hp h0 n ls t p' st' G')) ∧
    (fin n t st .nil p = none → ∃ g, lev D (k + 3) 31 [.ref h0.length, .ref (h0.length + 1), .tup []] (hp h0 n ls t p st G) = .exc ⟨IS, []⟩ (h0 ++ g)) := by
  obtain ⟨a, b⟩ := fin_a kk ht (k := k) (h0 := h0) st .nil p G fh ws
  refine ⟨fun st' d' p' e => ?_, fun e => ?_⟩
  · obtain ⟨G', x, y, z⟩ := a st' d' p' e
    refine ⟨G', x, y, ?_⟩
    show runDef 3 (b_ShapeReader_finish (lev D (k + 2))) [.ref h0.length, .ref (h0.length + 1), .tup []] _ = _
    exact run_rt z
  · obtain ⟨l, g, z⟩ := b e
    refine ⟨g, ?_⟩
    show runDef 3 (b_ShapeReader_finish (lev D (k + 2))) [.ref h0.length, .ref (h0.length + 1), .tup []] _ = _
    exact run_exc z
theorem fh_push {G : Hv} {st : List Fr} (f : FH G st) (c : Tx) : FH (G ++ [.lst [.str c]]) ((G.length, c, []) :: st) := by
  have lt : ∀ q ∈ st, q.1 < G.length := fun q hq => (List.getElem?_eq_some_iff.mp (f.at_ q hq)).1
  refine ⟨fun q hq => ?_, ?_⟩
  · rcases List.mem_cons.mp hq with rfl | hq
    · simp
    · rw [List.getElem?_append_left (lt q hq)]
      exact f.at_ q hq
  · simp only [List.map_cons, List.nodup_cons]
    refine ⟨fun z => ?_, f.nd⟩
    obtain ⟨q, hq, e⟩ := List.mem_map.mp z
    have := lt q hq
    omega
theorem ok1 {t : Tx} {p c : Nat} (ot : okV (.str t) = true) (e : t[p]? = some c) : okV (.str [c]) = true := by
  simp only [okV] at ot ⊢
  simp only [List.all_cons, List.all_nil, Bool.and_true]
  exact List.all_eq_true.mp ot c (List.mem_of_getElem? e)
theorem fin_len {n : Int} {t : Tx} : ∀ (st : List Fr) (d : Sh) (p : Nat) {st' : List Fr} {d' : Sh} {p' : Nat}, fin n t st d p = some (st', d', p') → st'.length ≤ st.length
  | [], d, p, st', d', p', e => by
    simp only [fin, Option.some.injEq, Prod.mk.injEq] at e
    obtain ⟨rfl, rfl, rfl⟩ := e
    exact Nat.le_refl _
  | (i, l, cs) :: st, d, p, st', d', p', e => by
    simp only [fin] at e
    split at e
    · split at e
      · simp only [Option.some.injEq, Prod.mk.injEq] at e
        obtain ⟨rfl, rfl, rfl⟩ := e
        simp
      · cases e
    · split at e
      · split at e
        · have := fin_len st _ _ e
          simp only [List.length_cons]; omega
        · cases e
      · have := fin_len st _ _ e
        simp only [List.length_cons]; omega
theorem sh_loop {h0 : Hv} {n : Int} {ls : List Tx} (kk : KOk n ls) {t : Tx} (ht : t.length ≤ 100000) (ot : okV (.str t) = true) {k : Nat} : ∀ (f : Nat) (st : List Fr) (p : Nat) (G : Hv) (x y : Option Val), FH G st → WS n ls st → t.take p = rn n st → p ≤ t.length → t.length < p + f → G.length ≤ p → st.length ≤ p →
    (∀ d p', sm n ls t f st p G.length = some (d, p') → ∃ G', sWhile (dTru (dC (.bl true))) (sBody (lev D (k + 3))) [some (.ref h0.length), some (.ref (h0.length + 1)), x, y] (hp h0 n ls t p st G) = .rt d.val (hp h0 n ls t p' [] G')) ∧
    (sm n ls t f st p G.length = none → ∃ l g, sWhile (dTru (dC (.bl true))) (sBody (lev D (k + 3))) [some (.ref h0.length), some (.ref (h0.length + 1)), x, y] (hp h0 n ls t p st G) = .exc ⟨IS, []⟩ l (h0 ++ g))
  | 0, st, p, G, x, y, fh, ws, hk, hp1, hf, hG, stl => by omega
  | f + 1, st, p, G, x, y, fh, ws, hk, hp1, hf, hG, stl => by
    rw [sWhile_eq]
    simp only [e_tru, e_c, Res.bind_ok, vTru_bl, Res.to_ok, if_true]
    have hl0 : ∀ x y, ([some (.ref h0.length), some (.ref (h0.length + 1)), x, y] : GH.Loc)[0]? = some (some (.ref h0.length)) := fun x y => rfl
    have e1 : dMth SR [115, 105, 103, 110] (lev D (k + 3) 28) (dVar 0) dNil [some (.ref h0.length), some (.ref (h0.length + 1)), x, y] (hp h0 n ls t p st G) = _ := (mth_ (hl0 _ _) hp_r (e_nil ..)).trans (sign_a ht (k := k + 2) hp_r)
    simp only [sm]
    cases e : t[p]? with
    | none =>
      rw [e] at e1
      refine ⟨fun d p' z => (by cases z), fun _ => ?_⟩
      unfold sBody
      rw [asg_ex e1]
      exact ⟨_, _, rfl⟩
    | some c =>
      rw [e] at e1
      simp only [set_r] at e1
      have hlt : p + 1 ≤ t.length := by
        have := (List.getElem?_eq_some_iff.mp e).1
        omega
      have oc := ok1 ot e
      have c1 : dB (dBin vIn (dVar 2) (dFld SR [108, 97, 98, 101, 108, 115] (dVar 0))) [some (.ref h0.length), some (.ref (h0.length + 1)), some (.str [c]), y] (hp h0 n ls t (p + 1) st G) = .ok (decide ([c] ∈ ls)) (hp h0 n ls t (p + 1) st G) := by
        simp only [e_b, e_bin, f_labels (hl0 _ _) hp_r, dVar, List.getElem?_cons_succ, List.getElem?_cons_zero, Res.bind_ok, vIn_tupTxt oc kk.tx, resB_bl]
      unfold sBody
      rw [asg_eq e1 (l1 := [some (.ref h0.length), some (.ref (h0.length + 1)), some (.str [c]), y]) rfl]
      simp only
      by_cases hin : [c] ∈ ls
      · rw [if_pos hin, if_t (h1 := hp h0 n ls t (p + 1) st G) (by rw [c1]; simp only [hin, decide_true])]
        have fh' := fh_push fh [c]
        have ws' : WS n ls ((G.length, [c], []) :: st) := fun q hq => by
          rcases List.mem_cons.mp hq with rfl | hq
          · exact ⟨hin, by rcases kk.n with rfl | rfl <;> simp, by simp⟩
          · exact ws q hq
        have hlen : (hp h0 n ls t (p + 1) st G).length = h0.length + 2 + G.length := by simp [hp]; omega
        have hpush : hp h0 n ls t (p + 1) st G ++ [.lst [.str [c]]] = hp h0 n ls t (p + 1) st (G ++ [.lst [.str [c]]]) := by simp [hp]
        have ap : dMeth1 isLst vAppend (dVar 1) (dLstM (dCons (dVar 2) dNil)) [some (.ref h0.length), some (.ref (h0.length + 1)), some (.str [c]), y] (hp h0 n ls t (p + 1) st G)
            = .ok .non (hp h0 n ls t (p + 1) ((G.length, [c], []) :: st) (G ++ [.lst [.str [c]]])) := by
          have mk1 : mkRef [.str [c]] (hp h0 n ls t (p + 1) st G) = .ok (.ref (h0.length + 2 + G.length)) (hp h0 n ls t (p + 1) st (G ++ [.lst [.str [c]]])) := by
            simp only [mkRef]
            rw [if_pos (by simp [lineN]), hlen, hpush]
          simp only [e_meth1, dVar, List.getElem?_cons_succ, List.getElem?_cons_zero, Res.bind_ok, isLst_ref hp_a, if_true, e_lstM, e_cons, e_nil, mk1]
          rw [append_ref hp_a (by rw [refs_len]; omega)]
          rw [show refs h0.length st ++ [.ref (h0.length + 2 + G.length)] = refs h0.length ((G.length, [c], []) :: st) by rw [refs_cons], set_a]
        rw [expr_eq ap]
        have c2 : dB (dBin vEq (dFld SR [119, 97, 121, 115] (dVar 0)) (dC (.int 2))) [some (.ref h0.length), some (.ref (h0.length + 1)), some (.str [c]), y] (hp h0 n ls t (p + 1) ((G.length, [c], []) :: st) (G ++ [.lst [.str [c]]])) = .ok (decide (n = 2)) (hp h0 n ls t (p + 1) ((G.length, [c], []) :: st) (G ++ [.lst [.str [c]]])) := by
          simp only [e_b, e_bin, Res.bind_ok, e_c, f_ways (hl0 _ _) hp_r]
          simp
        have gl : (G ++ [Ob.lst [Val.str [c]]]).length = G.length + 1 := by simp
        by_cases hn2 : n = 2
        · rw [if_pos hn2, if_t (h1 := hp h0 n ls t (p + 1) ((G.length, [c], []) :: st) (G ++ [.lst [.str [c]]])) (by rw [c2]; simp only [hn2, decide_true])]
          obtain ⟨t1, t2⟩ := take_a (n := n) (ls := ls) ht (k := k + 1) (c := 40) (j := h0.length) (h := hp h0 n ls t (p + 1) ((G.length, [c], []) :: st) (G ++ [.lst [.str [c]]])) hp_r
          have m1 := mth_ (m := [116, 97, 107, 101]) (DD := lev D (k + 3) 29) (r := dCons (dC (.str [40])) dNil) (vs := [.str [40]]) (hl0 (some (.str [c])) y) (hp_r (h0 := h0) (n := n) (ls := ls) (t := t) (p := p + 1) (st := (G.length, [c], []) :: st) (G := G ++ [.lst [.str [c]]])) (by simp)
          by_cases h2 : t[p + 1]? = some 40
          · rw [if_pos h2]
            rw [expr_eq (m1.trans (t1 h2)), set_r]
            simp only [e_next, SRes.andThen_nx, e_seq, e_cont]
            have hlt2 : p + 2 ≤ t.length := by
              have := (List.getElem?_eq_some_iff.mp h2).1
              omega
            have ih := sh_loop kk ht ot (k := k) (h0 := h0) f _ (p + 2) _ (some (.str [c])) y fh' ws' (by rw [show p + 2 = (p + 1) + 1 from rfl, take_next h2, take_next e, hk]; simp [rn, hn2]) hlt2 (by omega) (by omega) (by simp; omega)
            rw [gl] at ih
            exact ih
          · rw [if_neg h2]
            refine ⟨fun d p' z => (by cases z), fun _ => ?_⟩
            rw [expr_ex (m1.trans (t2 h2))]
            split
            · rw [set_r]; exact ⟨_, _, rfl⟩
            · exact ⟨_, _, rfl⟩
        · rw [if_neg hn2, if_f (h1 := hp h0 n ls t (p + 1) ((G.length, [c], []) :: st) (G ++ [.lst [.str [c]]])) (by rw [c2]; simp only [hn2, decide_false])]
          simp only [e_seq, e_cont]
          have ih := sh_loop kk ht ot (k := k) (h0 := h0) f _ (p + 1) _ (some (.str [c])) y fh' ws' (by rw [take_next e, hk]; simp [rn, hn2]) hlt (by omega) (by omega) (by simp; omega)
          rw [gl] at ih
          exact ih
      · rw [if_neg hin, if_f (h1 := hp h0 n ls t (p + 1) st G) (by rw [c1]; simp only [hin, decide_false])]
        have c3 : dB (dBin vNe (dVar 2) (dC (.str [46]))) [some (.ref h0.length), some (.ref (h0.length + 1)), some (.str [c]), y] (hp h0 n ls t (p + 1) st G) = .ok (decide (c ≠ 46)) (hp h0 n ls t (p + 1) st G) := by
          simp only [e_b, e_bin, dVar, List.getElem?_cons_succ, List.getElem?_cons_zero, Res.bind_ok, e_c, ne_str, resB_bl]
          simp
        rw [raise_if c3]
        by_cases h46 : c = 46
        · subst h46
          rw [if_neg (by simp), if_neg (by simp)]
          obtain ⟨a, b⟩ := finish_a kk ht (k := k) (h0 := h0) st (p + 1) G fh ws
          have m1 := mth_ (m := [102, 105, 110, 105, 115, 104]) (DD := lev D (k + 3) 31) (r := dCons (dVar 1) (dCons (dTup dNil) dNil)) (vs := [.ref (h0.length + 1), .tup []]) (hl0 (some (.str [46])) y) (hp_r (h0 := h0) (n := n) (ls := ls) (t := t) (p := p + 1) (st := st) (G := G)) (by simp [dVar, mkT_ok])
          cases hfin : fin n t st .nil (p + 1) with
          | none =>
            refine ⟨fun d p' z => (by cases z), fun _ => ?_⟩
            obtain ⟨g, hg⟩ := b hfin
            rw [asg_ex (m1.trans hg)]
            exact ⟨_, _, rfl⟩
          | some q =>
            obtain ⟨st', d1, p1⟩ := q
            obtain ⟨G', fh', hG', hg⟩ := a st' d1 p1 hfin
            obtain ⟨a1, a2, a3, a4, a5⟩ := fin_sound kk st .nil (p + 1) ws trivial (by rw [take_next e, hk]; rfl) hlt hfin
            rw [asg_eq (m1.trans hg) (l1 := [some (.ref h0.length), some (.ref (h0.length + 1)), some (.str [46]), some d1.val]) rfl]
            have c4 : dNot (dTru (dVar 1)) [some (.ref h0.length), some (.ref (h0.length + 1)), some (.str [46]), some d1.val] (hp h0 n ls t p1 st' G') = .ok st'.isEmpty (hp h0 n ls t p1 st' G') := by
              simp only [e_not, e_tru, dVar, List.getElem?_cons_succ, List.getElem?_cons_zero, Res.bind_ok, tru_ref hp_a]
              cases st' <;> simp [refs]
            by_cases hemp : st'.isEmpty = true
            · have hs : st' = [] := by simpa using hemp
              subst hs
              rw [if_t c4]
              refine ⟨fun d p' z => ?_, fun z => by simp at z⟩
              simp only [hemp, if_true, Option.some.injEq, Prod.mk.injEq] at z
              obtain ⟨rfl, rfl⟩ := z
              exact ⟨G', by simp [dVar]⟩
            · have hs : st' ≠ [] := by simpa using hemp
              rw [if_f (h1 := hp h0 n ls t p1 st' G') (by rw [c4]; simp only [hemp])]
              simp only [hemp, Bool.false_eq_true, if_false, e_next, SRes.turn_nx]
              have ih := sh_loop kk ht ot (k := k) (h0 := h0) f st' p1 G' (some (.str [46])) (some d1.val) fh' a1 (a5 hs).2 a2 (by omega) (by omega) (by have := fin_len _ _ _ hfin; omega)
              rw [hG'] at ih
              exact ih
        · rw [if_pos h46, if_pos (by simpa using h46)]
          exact ⟨fun d p' z => (by cases z), fun _ => ⟨_, _, rfl⟩⟩
end L01
set_option Elab.async false
set_option linter.all false
set_option maxRecDepth 100000
set_option maxHeartbeats 1000000
set_option autoImplicit false
namespace L01
open GH PySem
theorem tidy_okE {r : Res Val} {h : Hv} {v : Val} {g : Hv} (e : r = .ok v (h ++ g)) (o : okV v = true) : tidy r h = .ok v h :=
  eq_of (tidy_app (by rw [e]; exact ⟨⟨g, rfl⟩, o, rfl, rfl⟩))
theorem tidy_excE {r : Res Val} {h : Hv} {C : Tx} {g : Hv} (e : r = .exc ⟨C, []⟩ (h ++ g)) : tidy r h = .exc ⟨C, []⟩ h := by
  rw [e]
  unfold tidy
  simp only
  rw [if_pos]
  · simp
  · refine ⟨⟨by simp, fun i hi => .inl ?_⟩, rfl⟩
    rw [List.getElem?_append_left hi]
theorem init_a {n : Int} {ls : List Tx} {t : Tx} {h : Hv} {k : Nat} : lev D (k + 1) 27 [.ref h.length, kv n ls, .str t] (h ++ [.ins SR []]) = .ok .non (h ++ [rob n ls t 0]) := by
  show runDef 3 (b_ShapeReader_init (lev D k)) [.ref h.length, kv n ls, .str t] (h ++ [.ins SR []]) = _
  have g0 : ∀ o : Ob, (h ++ [o])[h.length]? = some o := fun o => by simp
  have s0 : ∀ o o' : Ob, (h ++ [o]).set h.length o' = h ++ [o'] := fun o o' => by simp
  have io : ∀ fs, insOf SR (h ++ [.ins SR fs]) (.ref h.length) = some (h.length, fs) := fun fs => by simp [insOf]
  have run : b_ShapeReader_init (lev D k) [some (.ref h.length), some (kv n ls), some (.str t)] (h ++ [.ins SR []]) = .nx [some (.ref h.length), some (kv n ls), some (.str t)] (h ++ [rob n ls t 0]) := by
    unfold b_ShapeReader_init
    have p2 : ∀ a b : Val, fput [108, 97, 98, 101, 108, 115] b [([119, 97, 121, 115], a)] = [([119, 97, 121, 115], a), ([108, 97, 98, 101, 108, 115], b)] := fun a b => rfl
    have p3 : ∀ a b c : Val, fput [116, 101, 120, 116] c [([119, 97, 121, 115], a), ([108, 97, 98, 101, 108, 115], b)] = [([119, 97, 121, 115], a), ([108, 97, 98, 101, 108, 115], b), ([116, 101, 120, 116], c)] := fun a b c => rfl
    have p4 : ∀ a b c d : Val, fput [97, 116] d [([119, 97, 121, 115], a), ([108, 97, 98, 101, 108, 115], b), ([116, 101, 120, 116], c)] = [([119, 97, 121, 115], a), ([108, 97, 98, 101, 108, 115], b), ([116, 101, 120, 116], c), ([97, 116], d)] := fun a b c d => rfl
    have p1 : ∀ a : Val, fput [119, 97, 121, 115] a [] = [([119, 97, 121, 115], a)] := fun a => rfl
    simp only [e_seq, e_asg, dVar, List.getElem?_cons_succ, List.getElem?_cons_zero, Res.to_ok, gTup, gsCons, gsNil, List.length_cons, List.length_nil, if_true, gFld, Res.toT_ok, io, s0, TRes.bind_ok, TRes.s_ok, SRes.andThen_nx, e_c, e_next,
      show (0 : Nat) < 1000 by omega, show (0 + 1 : Nat) < 1000 by omega, show (0 + 1 + 1 : Nat) < 1000 by omega, show (0 + 1 + 1 + 1 : Nat) < 1000 by omega, p1, p2, p3, p4]
    rfl
  exact run_nx run
theorem shape_m {h0 : Hv} {n : Int} {ls : List Tx} (kk : KOk n ls) {t : Tx} (ht : t.length ≤ 100000) (ot : okV (.str t) = true) {k : Nat} :
    (∀ d p', sm n ls t (t.length + 1) [] 0 0 = some (d, p') → ∃ g, lev D (k + 4) 30 [.ref h0.length] (h0 ++ [rob n ls t 0]) = .ok d.val (h0 ++ (rob n ls t p' :: g))) ∧
    (sm n ls t (t.length + 1) [] 0 0 = none → ∃ g, lev D (k + 4) 30 [.ref h0.length] (h0 ++ [rob n ls t 0]) = .exc ⟨IS, []⟩ (h0 ++ g)) := by
  obtain ⟨a, b⟩ := sh_loop kk ht ot (k := k) (h0 := h0) (t.length + 1) [] 0 [] none none ⟨fun q hq => (by cases hq), List.nodup_nil⟩ (fun q hq => (by cases hq)) rfl (Nat.zero_le _) (by omega) (Nat.le_refl _) (Nat.le_refl _)
  have e0 : h0 ++ [rob n ls t 0] ++ [.lst []] = hp h0 n ls t 0 [] [] := by simp [hp, refs]
  have el : (h0 ++ [rob n ls t 0]).length = h0.length + 1 := by simp
  have st : ∀ r, sWhile (dTru (dC (.bl true))) (sBody (lev D (k + 3))) [some (.ref h0.length), some (.ref (h0.length + 1)), none, none] (hp h0 n ls t 0 [] []) = r → b_ShapeReader_shape (lev D (k + 3)) [some (.ref h0.length), none, none, none] (h0 ++ [rob n ls t 0]) = r.andThen sNext := fun r e => by
    have e1 : dLstM dNil [some (.ref h0.length), none, none, none] (h0 ++ [rob n ls t 0]) = .ok (.ref (h0.length + 1)) (hp h0 n ls t 0 [] []) := by
      simp only [e_lstM, e_nil, Res.bind_ok, mkRef, el, e0]
      rw [if_pos (by simp)]
    unfold b_ShapeReader_shape
    rw [asg_eq e1 (l1 := [some (.ref h0.length), some (.ref (h0.length + 1)), none, none]) rfl, ← e]
    rfl
  refine ⟨fun d p' e => ?_, fun e => ?_⟩
  · obtain ⟨G', z⟩ := a d p' e
    refine ⟨.lst (refs h0.length []) :: G', ?_⟩
    show runDef 4 (b_ShapeReader_shape (lev D (k + 3))) [.ref h0.length] _ = _
    exact run_rt ((st _ z).trans rfl)
  · obtain ⟨l, g, z⟩ := b e
    refine ⟨g, ?_⟩
    show runDef 4 (b_ShapeReader_shape (lev D (k + 3))) [.ref h0.length] _ = _
    exact run_exc ((st _ z).trans rfl)
theorem read_a {n : Int} {ls : List Tx} (kk : KOk n ls) {t : Tx} (ht : t.length ≤ 100000) (ot : okV (.str t) = true) {k : Nat} {h : Hv} : lev D (k + 5) 8 [kv n ls, .str t] h = match rd n ls t with
    | some d => .ok d.val h
    | none => .exc ⟨IS, []⟩ h := by
  show tidy (runDef 4 (b_read_shape (lev D (k + 4))) [kv n ls, .str t] h) h = _
  obtain ⟨a, b⟩ := shape_m kk ht ot (k := k) (h0 := h)
  have e1 : dCall (lev D (k + 4) 0) (dCons (dVar 0) dNil) [some (kv n ls), some (.str t), none, none] h = .ok .non h := by
    simp [dVar, kind_a kk]
  have e2 : dMake SR (lev D (k + 4) 27) (dCons (dVar 0) (dCons (dVar 1) dNil)) [some (kv n ls), some (.str t), none, none] h = .ok (.ref h.length) (h ++ [rob n ls t 0]) := by
    simp [dMake, dVar, init_a]
  have m1 : dMth SR [115, 104, 97, 112, 101] (lev D (k + 4) 30) (dVar 2) dNil [some (kv n ls), some (.str t), some (.ref h.length), none] (h ++ [rob n ls t 0]) = lev D (k + 4) 30 [.ref h.length] (h ++ [rob n ls t 0]) :=
    mth_ (vs := []) (n := n) (ls := ls) (t := t) (p := 0) rfl (by simp) (e_nil ..)
  have st : ∀ v h1, lev D (k + 4) 30 [.ref h.length] (h ++ [rob n ls t 0]) = .ok v h1 → b_read_shape (lev D (k + 4)) [some (kv n ls), some (.str t), none, none] h = (sSeq (sIf (dB (dBin vLt (dFld SR [97, 116] (dVar 2)) (dLen (dVar 1)))) (sSeq (sRaise [73, 110, 118, 97, 108, 105, 100, 83, 104, 97, 112, 101])
    sNext) sNext)
    (sSeq (sRet (dVar 3))
    sNext)) [some (kv n ls), some (.str t), some (.ref h.length), some v] h1 := fun v h1 e => by
    unfold b_read_shape
    rw [expr_eq e1, asg_eq e2 (l1 := [some (kv n ls), some (.str t), some (.ref h.length), none]) rfl, asg_eq (m1.trans e) (l1 := [some (kv n ls), some (.str t), some (.ref h.length), some v]) rfl]
  unfold rd
  cases hs : sm n ls t (t.length + 1) [] 0 0 with
  | none =>
    obtain ⟨g, z⟩ := b hs
    refine tidy_excE (g := g) (run_exc (l' := [some (kv n ls), some (.str t), some (.ref h.length), none]) ?_)
    show b_read_shape (lev D (k + 4)) [some (kv n ls), some (.str t), none, none] h = _
    unfold b_read_shape
    rw [expr_eq e1, asg_eq e2 (l1 := [some (kv n ls), some (.str t), some (.ref h.length), none]) rfl, asg_ex (m1.trans z)]
  | some q =>
    obtain ⟨d, p'⟩ := q
    obtain ⟨g, z⟩ := a d p' hs
    obtain ⟨s1, s2, s3⟩ := sm_sound kk _ [] 0 0 (fun q hq => by cases hq) rfl (Nat.zero_le _) hs
    have hat : (h ++ (rob n ls t p' :: g))[h.length]? = some (rob n ls t p') := by simp
    have hlen : vLen (.str t) (h ++ (rob n ls t p' :: g)) = .ok (.int t.length) (h ++ (rob n ls t p' :: g)) := by
      simp only [vLen]
      rw [if_pos (show t.length ≤ lineN by unfold lineN; omega)]
    have c1 : dB (dBin vLt (dFld SR [97, 116] (dVar 2)) (dLen (dVar 1))) [some (kv n ls), some (.str t), some (.ref h.length), some d.val] (h ++ (rob n ls t p' :: g)) = .ok (decide (p' < t.length)) (h ++ (rob n ls t p' :: g)) := by
      simp only [e_b, e_bin, e_len, f_at (l := [some (kv n ls), some (.str t), some (.ref h.length), some d.val]) (i := 2) rfl hat, dVar, List.getElem?_cons_succ, List.getElem?_cons_zero, Res.bind_ok, hlen]
      simp
    simp only
    by_cases hp : p' < t.length
    · rw [if_pos hp]
      refine tidy_excE (g := rob n ls t p' :: g) (run_exc (l' := [some (kv n ls), some (.str t), some (.ref h.length), some d.val]) ?_)
      refine (st _ _ z).trans ?_
      rw [raise_if c1, if_pos (by simpa using hp)]
    · rw [if_neg hp]
      refine tidy_okE (g := rob n ls t p' :: g) (run_rt ?_) (Sh.okv kk s1)
      refine (st _ _ z).trans ?_
      rw [raise_if c1, if_neg (by simpa using hp)]
      simp [dVar]
abbrev noneT : Tx := [110, 111, 110, 101]
def rdv (n : Int) (ls : List Tx) (t : Tx) : Val := match rd n ls t with
  | some d => d.val
  | none => .str noneT
theorem tyOf_sh (d : Sh) (h : Hv) : dTru (dIsi .str (dVar 2)) = dTru (dIsi .str (dVar 2)) := rfl
theorem isi_sh {d : Sh} {l : GH.Loc} {h : Hv} {i : Nat} (hl : l[i]? = some (some d.val)) : dTru (dIsi .str (dVar i)) l h = .ok false h := by
  cases d <;> simp [dVar, hl, Sh.val, tyOf, isiB]
theorem law_read_a {n : Int} {ls : List Tx} (kk : KOk n ls) {t : Tx} (ht : t.length ≤ 100000) (ot : okV (.str t) = true) {k : Nat} {h : Hv} : lev D (k + 6) 19 [kv n ls, .str t] h = .ok (rdv n ls t) h := by
  show runDef 4 (b__law_read (lev D (k + 5))) [kv n ls, .str t] h = _
  have e := read_a kk ht ot (k := k) (h := h)
  have e1 : dCall (lev D (k + 5) 8) (dCons (dVar 0) (dCons (dVar 1) dNil)) [some (kv n ls), some (.str t), none, none] h = lev D (k + 5) 8 [kv n ls, .str t] h := by
    simp [dVar]
  have run : b__law_read (lev D (k + 5)) [some (kv n ls), some (.str t), none, none] h = .rt (rdv n ls t) h := by
    unfold b__law_read rdv
    rw [e_seq]
    cases hr : rd n ls t with
    | none =>
      rw [hr] at e
      rw [e] at e1
      simp only [sTryIs, asg_ex e1]
      simp [IS, noneT]
    | some d =>
      rw [hr] at e
      rw [e] at e1
      simp only [sTryIs, e_seq, e_asg, e1, Res.to_ok, e_name, TRes.s_ok, SRes.andThen_nx, List.set_cons_succ, List.set_cons_zero, e_ret, e_dif, isi_sh (l := [some (kv n ls), some (.str t), some d.val, none]) (i := 2) rfl, Res.bind_ok, Bool.false_eq_true, if_false, dVar, List.getElem?_cons_succ, List.getElem?_cons_zero, Res.to_ok, SRes.andThen_rt]
  exact run_rt run
end L01
set_option Elab.async false
set_option linter.all false
set_option maxRecDepth 100000
set_option maxHeartbeats 1000000
set_option autoImplicit false
namespace L01
open GH PySem
def Sh.good : Sh → Prop
  | .nil => True
  | .one l c => okV (.str l) = true ∧ c.good
  | .two l a b => okV (.str l) = true ∧ a.good ∧ b.good
theorem Sh.okg : ∀ {s : Sh}, s.good → okV s.val = true
  | .nil, _ => rfl
  | .one l c, g => by simp only [Sh.val, okV, okVs, Bool.and_true]; rw [Sh.okg g.2]; simpa [okV] using g.1
  | .two l a b, g => by simp only [Sh.val, okV, okVs, Bool.and_true]; rw [Sh.okg g.2.1, Sh.okg g.2.2]; simpa [okV] using g.1
theorem Sh.ok_good {n : Int} {ls : List Tx} (kk : KOk n ls) : ∀ {s : Sh}, s.ok n ls → s.good
  | .nil, _ => trivial
  | .one l c, g => ⟨kk.tx l g.2.1, Sh.ok_good kk g.2.2⟩
  | .two l a b, g => ⟨kk.tx l g.2.1, Sh.ok_good kk g.2.2.1, Sh.ok_good kk g.2.2.2⟩
theorem eq_nilg {s : Sh} {h : Hv} (g : s.good) : vEq s.val (.tup []) h = .ok (.bl s.isNil) h := eq_nil (Sh.okg g)
def pathsOf : Sh → List Int → List (List Int)
  | .nil, _ => []
  | .one _ c, p => p :: pathsOf c (p ++ [0])
  | .two _ a b, p => p :: (pathsOf a (p ++ [0]) ++ pathsOf b (p ++ [1]))
theorem paths_len : ∀ (s : Sh) (p : List Int), (pathsOf s p).length = s.size
  | .nil, _ => rfl
  | .one _ c, p => by simp [pathsOf, Sh.size, paths_len c]
  | .two _ a b, p => by simp [pathsOf, Sh.size, paths_len a, paths_len b]
theorem rl1 : rangeL 0 1 = [.int 0] := nrfl rfl
theorem rl2 : rangeL 0 2 = [.int 0, .int 1] := nrfl rfl
theorem lp_two {k : Nat} {lb : List Nat} {a b : Sh} {p : List Int} {h : Hv} {P : Val → Hv → Prop} (g : (Sh.two lb a b).good) (hl : p.length + (a.size + b.size + 1) ≤ 1000) (q : P (.lst ((pathsOf (.two lb a b) p).map pv)) h)
    (ia : ∀ (h : Hv) (P : Val → Hv → Prop), P (.lst ((pathsOf a (p ++ [0])).map pv)) h → ok (lev D k 16 [a.val, pv (p ++ [0])] h) P)
    (ib : ∀ (h : Hv) (P : Val → Hv → Prop), P (.lst ((pathsOf b (p ++ [1])).map pv)) h → ok (lev D k 16 [b.val, pv (p ++ [1])] h) P) : ok (runDef 4 (b__law_paths (lev D k)) [(Sh.two lb a b).val, pv p] h) P := by
  obtain ⟨v0, hv⟩ : ∃ v0, v0 = (Sh.two lb a b).val := ⟨_, rfl⟩
  have hv2 : v0 = .tup [.str lb, a.val, b.val] := hv.trans rfl
  have en : vEq v0 (.tup []) h = .ok (.bl false) h := by rw [hv]; exact eq_nilg (s := .two lb a b) g
  rw [← hv]
  rw [ok_run]
  refine sok_seq (fun l h1 => l = [some v0, some (pv p), none, none] ∧ h1 = h) (by simp [dVar, mkT_ok, en]) ?_
  rintro l h ⟨rfl, rfl⟩
  refine sok_seq (fun l h1 => l = [some v0, some (pv p), some (.lst [pv p]), none] ∧ h1 = h) ?_ ?_
  · rw [e_asg]
    simp only [e_lst, e_cons, e_nil, dVar, List.getElem?_cons_succ, List.getElem?_cons_zero, Res.bind_ok]
    rw [mkL_ok (by simp)]
    simp
  rintro l h ⟨rfl, rfl⟩
  refine sok_seq (fun l h' => (∃ x, l = [some v0, some (pv p), some (.lst ((pathsOf (.two lb a b) p).map pv)), x]) ∧ h' = h) ?_ (fun l h' ⟨⟨x, e1⟩, e2⟩ => by subst e1 e2; simpa [dVar] using q)
  subst hv2
  rw [e_for]
  simp only [e_rng1, e_bin, e_len, dVar, List.getElem?_cons_zero, Res.bind_ok, e_c, vLen_tup, vSub_int]
  rw [show (([Val.str lb, a.val, b.val].length : Nat) : Int) - 1 = 2 by simp, vRange1_ok (by omega) (by omega), show rangeL 0 (2 : Int).toNat = [.int 0, .int 1] from rl2]
  rw [Res.to_ok]
  refine forL_inv (fun items l h' => ((items = [.int 0, .int 1] ∧ ∃ x, l = [some (.tup [.str lb, a.val, b.val]), some (pv p), some (.lst [pv p]), x]) ∨ (items = [.int 1] ∧ ∃ x, l = [some (.tup [.str lb, a.val, b.val]), some (pv p), some (.lst ((p :: pathsOf a (p ++ [0])).map pv)), x])
    ∨ (items = [] ∧ ∃ x, l = [some (.tup [.str lb, a.val, b.val]), some (pv p), some (.lst ((pathsOf (.two lb a b) p).map pv)), x])) ∧ h' = h) ?_ ?_ _ _ _ ⟨.inl ⟨rfl, none, rfl⟩, rfl⟩
  · rintro v items l h ⟨⟨e, x, rfl⟩ | ⟨e, x, rfl⟩ | ⟨e, x, rfl⟩, rfl⟩
    · simp only [List.cons.injEq] at e
      obtain ⟨rfl, rfl⟩ := e
      refine ⟨trivial, ?_⟩
      simp [dVar]
      simp [mkT_ok]
      rw [add_tup (by simp; omega)]
      simp
      rw [show p.map Val.int ++ [.int 0] = (p ++ [0]).map .int by simp]
      refine ia _ _ ?_
      rw [add_lst (by simp [paths_len]; omega)]
      simp
    · simp only [List.cons.injEq] at e
      obtain ⟨rfl, rfl⟩ := e
      refine ⟨trivial, ?_⟩
      simp [dVar]
      simp [mkT_ok]
      rw [add_tup (by simp; omega)]
      simp
      rw [show p.map Val.int ++ [.int 1] = (p ++ [1]).map .int by simp]
      refine ib _ _ ?_
      rw [add_lst (by simp [paths_len]; omega)]
      simp [pathsOf]
    · cases e
  · rintro l h ⟨⟨e, x, rfl⟩ | ⟨e, x, rfl⟩ | ⟨e, x, rfl⟩, rfl⟩
    · cases e
    · cases e
    · exact ⟨trivial, ⟨x, rfl⟩, rfl⟩
theorem lpaths : ∀ (s : Sh) {k : Nat} {p : List Int} {h : Hv} {P : Val → Hv → Prop}, s.good → p.length + s.size ≤ 1000 → P (.lst ((pathsOf s p).map pv)) h → ok (lev D (k + s.size + 1) 16 [s.val, pv p] h) P
  | .nil, k, p, h, P, g, hl, q => by
    show ok (runDef 4 (b__law_paths (lev D (k + 0))) [Sh.nil.val, pv p] h) P
    rw [ok_run]
    simp [b__law_paths, dVar, mkT_ok, mkL_ok, eq_nilg (s := .nil) g, Sh.isNil]
    exact q
  | .one lb c, k, p, h, P, g, hl, q => by
    show ok (runDef 4 (b__law_paths (lev D (k + c.size + 1))) [(Sh.one lb c).val, pv p] h) P
    rw [ok_run]
    simp only [Sh.size] at hl
    refine sok_seq (fun l h1 => l = [some (Sh.one lb c).val, some (pv p), none, none] ∧ h1 = h) (by simp [dVar, mkT_ok, eq_nilg (s := .one lb c) g, Sh.isNil]) ?_
    rintro l h ⟨rfl, rfl⟩
    refine sok_seq (fun l h1 => l = [some (Sh.one lb c).val, some (pv p), some (.lst [pv p]), none] ∧ h1 = h) (by simp [dVar, mkL_ok]) ?_
    rintro l h ⟨rfl, rfl⟩
    simp [dVar, Sh.val, vRange1, rl1, rl2, forL]
    simp [mkT_ok]
    rw [add_tup (by simp; omega)]
    simp
    rw [show p.map Val.int ++ [.int 0] = (p ++ [0]).map .int by simp]
    refine lpaths c g.2 (by simp; omega) ?_
    rw [add_lst (by simp [paths_len]; omega)]
    simp [dVar]
    simpa [pathsOf] using q
  | .two lb a b, k, p, h, P, g, hl, q => by
    simp only [Sh.size] at hl
    refine lp_two (k := k + (a.size + b.size) + 1) g hl q (fun h P q => ?_) (fun h P q => ?_)
    · rw [show k + (a.size + b.size) + 1 = (k + b.size) + a.size + 1 by omega]
      exact lpaths a g.2.1 (by simp; omega) q
    · rw [show k + (a.size + b.size) + 1 = (k + a.size) + b.size + 1 by omega]
      exact lpaths b g.2.2 (by simp; omega) q
abbrev El := List Int × Sh
def ev (q : El) : Val := .tup [pv q.1, q.2.val]
def elems : Sh → List Int → List El
  | .nil, _ => []
  | .one l c, p => (p, .one l c) :: elems c (p ++ [0])
  | .two l a b, p => (p, .two l a b) :: (elems b (p ++ [1]) ++ elems a (p ++ [0]))
def mss (st : List El) : Nat := (st.map fun q => 2 * q.2.size + 1).sum
def lens (st : List El) (n : Nat) : Prop := ∀ q ∈ st, q.1.length + q.2.size ≤ n
def good' (st : List El) : Prop := ∀ q ∈ st, q.2.good
noncomputable def eBody : Stm := (sSeq (sAsg (dMeth0 isLst vPop (dVar 2)) (gTup 2 (gsCons (gName 3) (gsCons (gName 4) gsNil))))
    (sSeq (sIf (dTru (dVar 4)) (sSeq (sExpr (dMeth1 isLst vAppend (dVar 1) (dTup (dCons (dVar 3) (dCons (dVar 4) dNil)))))
    (sSeq (sFor (iEnumG (dCut (dVar 4) (oSome (dC (.int 1))) oNone)) (gTup 2 (gsCons (gName 5) (gsCons (gName 6) gsNil))) (sSeq (sExpr (dMeth1 isLst vAppend (dVar 2) (dTup (dCons (dBin vAdd (dVar 3) (dTup (dCons (dVar 5) dNil))) (dCons (dVar 6) dNil)))))
    sNext))
    sNext)) sNext)
    sNext))
theorem mss_len (st : List El) : st.length ≤ mss st := by
  induction st with
  | nil => exact Nat.zero_le _
  | cons a st ih => simp [mss] at ih ⊢; omega
/-- what is left at each item taken from the stack -/
theorem eloop {h : Hv} {sv0 : Val} {R : GH.Loc → Hv → Prop} : ∀ (n : Nat) (st res : List El) (x y z u : Option Val), mss st ≤ n → good' st → lens st 1000 → res.length + n ≤ 10000 →
    (∀ l', (∃ x y z u, l' = [some sv0, some (.ref h.length), some (.ref (h.length + 1)), x, y, z, u]) → R l' (h ++ [.lst ((res ++ (st.reverse.flatMap fun q => elems q.2 q.1)).map ev), .lst []])) →
    sok (sWhile (dTru (dVar 2)) eBody [some sv0, some (.ref h.length), some (.ref (h.length + 1)), x, y, z, u] (h ++ [.lst (res.map ev), .lst (st.map ev)])) { nx := R } := by
  intro n
  induction n with
  | zero =>
    intro st res x y z u hm hg hl hr q
    cases st with
    | cons a st => simp [mss] at hm
    | nil =>
      rw [sWhile_eq]
      simp [dVar, tru_ref (g1 h _ _)]
      simpa using q _ ⟨_, _, _, _, rfl⟩
  | succ n ih =>
    intro st res x y z u hm hg hl hr q
    rcases List.eq_nil_or_concat st with rfl | ⟨st, a, rfl⟩
    · rw [sWhile_eq]
      simp [dVar, tru_ref (g1 h _ _)]
      simpa using q _ ⟨_, _, _, _, rfl⟩
    · rw [List.concat_eq_append] at hm hg hl q ⊢
      obtain ⟨p, s⟩ := a
      rw [sWhile_eq]
      simp only [e_tru, dVar, List.getElem?_cons_succ, List.getElem?_cons_zero, Res.bind_ok, tru_ref (g1 h _ _), Res.to_ok]
      rw [if_pos (by simp)]
      rw [sok_turn]
      have gs : s.good := hg (p, s) (by simp)
      have ls : p.length + s.size ≤ 1000 := hl (p, s) (by simp)
      have hgs : good' st := fun q hq => hg q (by simp [hq])
      have hls : lens st 1000 := fun q hq => hl q (by simp [hq])
      have hms : mss st + (2 * s.size + 1) ≤ n + 1 := by simpa [mss] using hm
      have hs := mss_len st
      refine sok_seq (fun l h' => l = [some sv0, some (.ref h.length), some (.ref (h.length + 1)), some (pv p), some s.val, z, u] ∧ h' = h ++ [.lst (res.map ev), .lst (st.map ev)]) ?_ ?_
      · simp only [e_asg, e_meth0, dVar, List.getElem?_cons_succ, List.getElem?_cons_zero, Res.bind_ok, isLst_ref (g1 h _ _), if_true]
        rw [pop_ref (l := st.map ev) (v := ev (p, s)) (by rw [g1]; simp)]
        simp [ev, gTup, gsCons, gsNil]
      rintro l h' ⟨rfl, rfl⟩
      cases s with
      | nil =>
        simp [dVar, Sh.val, tru_tup]
        refine ih st res _ _ _ _ (by omega) hgs hls (by omega) fun l' hl' => ?_
        have := q l' hl'
        simpa [elems] using this
      | one lb c =>
        simp only [Sh.size] at hms ls
        refine sok_seq (fun l h' => (∃ z u, l = [some sv0, some (.ref h.length), some (.ref (h.length + 1)), some (pv p), some (Sh.one lb c).val, z, u]) ∧ h' = h ++ [.lst ((res ++ [(p, Sh.one lb c)]).map ev), .lst ((st ++ [(p ++ [0], c)]).map ev)]) ?_ ?_
        · simp only [e_if, e_tru, dVar, List.getElem?_cons_succ, List.getElem?_cons_zero, Res.bind_ok, Sh.val, tru_tup, Res.to_ok]
          rw [if_pos (by simp)]
          refine sok_seq (fun l h' => l = [some sv0, some (.ref h.length), some (.ref (h.length + 1)), some (pv p), some (Sh.one lb c).val, z, u] ∧ h' = h ++ [.lst ((res ++ [(p, Sh.one lb c)]).map ev), .lst (st.map ev)]) ?_ ?_
          · simp [dVar, isLst_ref (g0 h _ _), mkT_ok, append_ref (g0 h _ _) (show (res.map ev).length < 16777216 by simp; omega), Sh.val, ev]
          rintro l h' ⟨rfl, rfl⟩
          simp only [e_seq, e_for, e_enum, e_cut, dVar, List.getElem?_cons_succ, List.getElem?_cons_zero, Res.bind_ok, oSome, e_c, e_onone, Sh.val]
          rw [show vCut (.tup [.str lb, c.val]) (some 1) none (h ++ [.lst ((res ++ [(p, Sh.one lb c)]).map ev), .lst (st.map ev)]) = .ok (.tup [c.val]) _ from rfl]
          simp [vEnum, enumL, forL, gTup, gsCons, gsNil, dVar, isLst_ref (g1 h _ _), mkT_ok]
          rw [add_tup (by simp; omega)]
          simp [mkT_ok, append_ref (g1 h _ _) (show (st.map ev).length < 16777216 by simp; omega), ev, Sh.val]
        rintro l h' ⟨⟨z, u, rfl⟩, rfl⟩
        simp only [e_next, sok_nx]
        refine ih (st ++ [(p ++ [0], c)]) (res ++ [(p, Sh.one lb c)]) _ _ _ _ (by simp [mss] at hms ⊢; omega) (fun q hq => ?_) (fun q hq => ?_) (by simp; omega) fun l' hl' => ?_
        · rcases List.mem_append.mp hq with hq | hq
          · exact hgs q hq
          · rw [List.mem_singleton.mp hq]; exact gs.2
        · rcases List.mem_append.mp hq with hq | hq
          · exact hls q hq
          · rw [List.mem_singleton.mp hq]; simp; omega
        · have := q l' hl'
          simpa [elems] using this
      | two lb a b =>
        simp only [Sh.size] at hms ls
        refine sok_seq (fun l h' => (∃ z u, l = [some sv0, some (.ref h.length), some (.ref (h.length + 1)), some (pv p), some (Sh.two lb a b).val, z, u]) ∧ h' = h ++ [.lst ((res ++ [(p, Sh.two lb a b)]).map ev), .lst ((st ++ [(p ++ [0], a), (p ++ [1], b)]).map ev)]) ?_ ?_
        · simp only [e_if, e_tru, dVar, List.getElem?_cons_succ, List.getElem?_cons_zero, Res.bind_ok, Sh.val, tru_tup, Res.to_ok]
          rw [if_pos (by simp)]
          refine sok_seq (fun l h' => l = [some sv0, some (.ref h.length), some (.ref (h.length + 1)), some (pv p), some (Sh.two lb a b).val, z, u] ∧ h' = h ++ [.lst ((res ++ [(p, Sh.two lb a b)]).map ev), .lst (st.map ev)]) ?_ ?_
          · simp [dVar, isLst_ref (g0 h _ _), mkT_ok, append_ref (g0 h _ _) (show (res.map ev).length < 16777216 by simp; omega), Sh.val, ev]
          rintro l h' ⟨rfl, rfl⟩
          simp only [e_seq, e_for, e_enum, e_cut, dVar, List.getElem?_cons_succ, List.getElem?_cons_zero, Res.bind_ok, oSome, e_c, e_onone, Sh.val]
          rw [show vCut (.tup [.str lb, a.val, b.val]) (some 1) none (h ++ [.lst ((res ++ [(p, Sh.two lb a b)]).map ev), .lst (st.map ev)]) = .ok (.tup [a.val, b.val]) _ from rfl]
          simp only [Res.bind_ok, vEnum, Res.to_ok, sok_then]
          rw [show enumL [a.val, b.val] = [.tup [.int 0, a.val], .tup [.int 1, b.val]] from rfl]
          refine forL_inv (fun items l h' => ∃ z u, l = [some sv0, some (.ref h.length), some (.ref (h.length + 1)), some (pv p), some (.tup [.str lb, a.val, b.val]), z, u] ∧ ((items = [.tup [.int 0, a.val], .tup [.int 1, b.val]] ∧ h' = h ++ [.lst ((res ++ [(p, Sh.two lb a b)]).map ev), .lst (st.map ev)])
            ∨ (items = [.tup [.int 1, b.val]] ∧ h' = h ++ [.lst ((res ++ [(p, Sh.two lb a b)]).map ev), .lst ((st ++ [(p ++ [0], a)]).map ev)]) ∨ (items = [] ∧ h' = h ++ [.lst ((res ++ [(p, Sh.two lb a b)]).map ev), .lst ((st ++ [(p ++ [0], a), (p ++ [1], b)]).map ev)]))) ?_ ?_ _ _ _ ⟨z, u, rfl, .inl ⟨rfl, rfl⟩⟩
          · rintro v items l h' ⟨z, u, rfl, ⟨e, rfl⟩ | ⟨e, rfl⟩ | ⟨e, rfl⟩⟩
            · simp only [List.cons.injEq] at e
              obtain ⟨rfl, rfl⟩ := e
              refine ⟨trivial, ?_⟩
              simp only [gTup, gsCons, gsNil, e_name, TRes.bind_ok, tok_ok, List.length_cons, List.length_nil, if_true, e_seq, e_expr, e_meth1, dVar, List.set_cons_succ, List.set_cons_zero, List.getElem?_cons_succ, List.getElem?_cons_zero, Res.bind_ok, isLst_ref (g1 h _ _), e_tup, e_cons, e_bin, e_nil]
              simp [mkT_ok]
              rw [add_tup (by simp; omega)]
              simp [mkT_ok, append_ref (g1 h _ _) (show (st.map ev).length < 16777216 by simp; omega), ev]
            · simp only [List.cons.injEq] at e
              obtain ⟨rfl, rfl⟩ := e
              refine ⟨trivial, ?_⟩
              simp only [gTup, gsCons, gsNil, e_name, TRes.bind_ok, tok_ok, List.length_cons, List.length_nil, if_true, e_seq, e_expr, e_meth1, dVar, List.set_cons_succ, List.set_cons_zero, List.getElem?_cons_succ, List.getElem?_cons_zero, Res.bind_ok, isLst_ref (g1 h _ _), e_tup, e_cons, e_bin, e_nil]
              simp [mkT_ok]
              rw [add_tup (by simp; omega)]
              simp [mkT_ok]
              rw [append_ref (g1 h _ _) (by simp; omega)]
              simp [ev]
            · cases e
          · rintro l h' ⟨z, u, rfl, ⟨e, rfl⟩ | ⟨e, rfl⟩ | ⟨e, rfl⟩⟩
            · cases e
            · cases e
            · refine ⟨trivial, ?_⟩
              simp [Sh.val]
        rintro l h' ⟨⟨z, u, rfl⟩, rfl⟩
        simp only [e_next, sok_nx]
        refine ih (st ++ [(p ++ [0], a), (p ++ [1], b)]) (res ++ [(p, Sh.two lb a b)]) _ _ _ _ (by simp [mss] at hms ⊢; omega) (fun q hq => ?_) (fun q hq => ?_) (by simp; omega) fun l' hl' => ?_
        · rcases List.mem_append.mp hq with hq | hq
          · exact hgs q hq
          · simp at hq
            rcases hq with rfl | rfl
            · exact gs.2.1
            · exact gs.2.2
        · rcases List.mem_append.mp hq with hq | hq
          · exact hls q hq
          · simp at hq
            rcases hq with rfl | rfl <;> simp <;> omega
        · have := q l' hl'
          simpa [elems] using this
theorem elems_ok : ∀ (s : Sh) (p : List Int), s.good → okVs ((elems s p).map ev) = true
  | .nil, _, _ => rfl
  | .one l c, p, g => by
    have := Sh.okg (s := .one l c) g
    simp only [elems, List.map_cons, okVs, elems_ok c _ g.2, Bool.and_true, ev, okV, okV_pv, okVs_ints, this, Bool.and_self]
  | .two l a b, p, g => by
    have := Sh.okg (s := .two l a b) g
    simp only [elems, List.map_cons, List.map_append, okVs, okVs_append, elems_ok a _ g.2.1, elems_ok b _ g.2.2, Bool.and_true, ev, okV, okV_pv, okVs_ints, this, Bool.and_self]
theorem all_el {k : Nat} {s : Sh} {h : Hv} {P : Val → Hv → Prop} (g : s.good) (hs : s.size ≤ 1000) (q : P (.lst ((elems s []).map ev)) h) : ok (lev D (k + 1) 2 [s.val] h) P := by
  show ok (tidy (runDef 7 (b_all_elements (lev D k)) [s.val] h) h) P
  refine tidy_lst ?_
  rw [ok_run]
  refine sok_seq (fun l h' => l = [some s.val, some (.ref h.length), none, none, none, none, none] ∧ h' = h ++ [.lst []]) (by simp [mkRef, lineN]) ?_
  rintro l h' ⟨rfl, rfl⟩
  refine sok_seq (fun l h' => l = [some s.val, some (.ref h.length), some (.ref (h.length + 1)), none, none, none, none] ∧ h' = h ++ [.lst [], .lst [ev ([], s)]]) (by simp [mkRef, lineN, mkT_ok, dVar, ev]) ?_
  rintro l h' ⟨rfl, rfl⟩
  refine sok_seq (fun l h' => (∃ x y z u, l = [some s.val, some (.ref h.length), some (.ref (h.length + 1)), x, y, z, u]) ∧ h' = h ++ [.lst ((elems s []).map ev), .lst []]) ?_ ?_
  · refine sok_imp (eloop (h := h) (sv0 := s.val) (R := fun l h' => (∃ x y z u, l = [some s.val, some (.ref h.length), some (.ref (h.length + 1)), x, y, z, u]) ∧ h' = h ++ [.lst ((elems s []).map ev), .lst []]) (2 * s.size + 1) [([], s)] [] none none none none (by simp [mss]) (fun q hq => by rw [List.mem_singleton.mp hq]; exact g) (fun q hq => by rw [List.mem_singleton.mp hq]; simpa using hs) (by simp; omega) fun l' hl' => ⟨hl', by simp⟩) (fun _ _ z => z) (fun _ _ z => z.elim) (fun _ _ z => z.elim) (fun _ _ z => z.elim)
  rintro l h' ⟨⟨x, y, z, u, rfl⟩, rfl⟩
  simp [dVar]
  exact ⟨elems_ok s [] g, q⟩
theorem el_mem : ∀ (s : Sh) (p q : List Int), q ∈ (elems s p).map (·.1) ↔ q ∈ pathsOf s p
  | .nil, _, _ => by simp [elems, pathsOf]
  | .one l c, p, q => by simp only [elems, pathsOf, List.map_cons, List.mem_cons, el_mem c]
  | .two l a b, p, q => by
    simp only [elems, pathsOf, List.map_cons, List.map_append, List.mem_cons, List.mem_append, el_mem a, el_mem b]
    constructor <;> (rintro (h | h | h) <;> simp [h])
theorem el_head : ∀ s : Sh, (elems s []).map (·.1) = [] ∨ ∃ r, (elems s []).map (·.1) = [] :: r
  | .nil => .inl rfl
  | .one l c => .inr ⟨_, rfl⟩
  | .two l a b => .inr ⟨_, rfl⟩
theorem el_len : ∀ (s : Sh) (p : List Int), (elems s p).length = s.size
  | .nil, _ => rfl
  | .one _ c, p => by simp [elems, Sh.size, el_len c]
  | .two _ a b, p => by simp [elems, Sh.size, el_len a, el_len b]; omega
/-- paths(shape), _law_paths sorted: lists of the same paths -/
theorem paths_sp (s : Sh) (g : s.good) (hs : s.size ≤ 1000) : ∃ L : List (List Int), (∀ q, q ∈ L ↔ q ∈ pathsOf s []) ∧ L.length = s.size ∧ ∀ (k : Nat) (h : Hv) (P : Val → Hv → Prop), P (.lst (L.map pv)) h → ok (lev D (k + 2) 4 [s.val] h) P := by
  obtain ⟨L, h1, h2, _⟩ := sorted_pv (el_head s) []
  refine ⟨L, fun q => by rw [h1, el_mem], by rw [h2, List.length_map, el_len], fun k h P q => ?_⟩
  obtain ⟨L', h1', h2', e'⟩ := sorted_pv (el_head s) h
  have eL : L' = L := by
    have a := (sorted_pv (el_head s) h)
    have e1 : vSorted (.lst (((elems s []).map (·.1)).map pv)) h = .ok (.lst (L'.map pv)) h := e'
    have e2 : vSorted (.lst (((elems s []).map (·.1)).map pv)) [] = .ok (.lst (L.map pv)) [] := by assumption
    unfold vSorted at e1 e2
    simp only [lstOf] at e1 e2
    split at e1
    · rename_i o
      rw [if_pos o] at e2
      simp only [Res.ok.injEq, Val.lst.injEq, and_true] at e1 e2
      rw [e1] at e2
      exact List.map_inj_right (fun a b e => pv_inj e) |>.mp e2
    · cases e1
  subst eL
  show ok (runDef 3 (b_paths (lev D (k + 1))) [s.val] h) P
  rw [ok_run]
  simp [b_paths, dVar]
  refine all_el g hs ?_
  simp
  refine lc_pure (fun _ => true) (fun v => match v with | .tup [a, _] => a | v => v) trivial ?_ ?_
  · intro x hx
    obtain ⟨q, _, rfl⟩ := List.mem_map.mp hx
    simp [ev, gTup, gsCons, gsNil, wipeL, dVar]
  · have e : (List.filter (fun _ => true) ((elems s []).map ev)).map (fun v => match v with | .tup [a, _] => a | v => v) = ((elems s []).map (·.1)).map pv := by
      generalize elems s [] = l
      induction l with
      | nil => rfl
      | cons a l ih => simp only [List.map_cons, List.filter_cons, if_true] at ih ⊢; rw [ih]; rfl
    rw [e, e']
    simpa using q
end L01
set_option Elab.async false
set_option linter.all false
set_option maxRecDepth 100000
set_option maxHeartbeats 1000000
set_option autoImplicit false
namespace L01
open GH PySem
/-! paths in order -/
def lePv (a b : List Int) : Bool := decide (a ≤ b)
def pl (L : List (List Int)) : List (List Int) := L.mergeSort lePv
theorem lePv_trans (a b c : List Int) (h1 : lePv a b = true) (h2 : lePv b c = true) : lePv a c = true := by
  simp only [lePv, decide_eq_true_eq] at *
  exact List.le_trans h1 h2
theorem lePv_total (a b : List Int) : (lePv a b || lePv b a) = true := by
  simp only [lePv, Bool.or_eq_true, decide_eq_true_eq]
  exact List.le_total _ _
theorem pl_perm {A B : List (List Int)} (p : A.Perm B) : pl A = pl B := by
  refine List.Perm.eq_of_pairwise (le := fun a b => lePv a b = true) (fun a b _ _ h1 h2 => ?_) (List.pairwise_mergeSort lePv_trans lePv_total A) (List.pairwise_mergeSort lePv_trans lePv_total B) (((List.mergeSort_perm A lePv).trans p).trans (List.mergeSort_perm B lePv).symm)
  simp only [lePv, decide_eq_true_eq] at h1 h2
  exact List.le_antisymm h1 h2
theorem pl_self (A : List (List Int)) : (pl A).Perm A := List.mergeSort_perm _ _
theorem dataLt_pv (p q : List Int) : PySem.W.dataLt (pd (pv p)) (pd (pv q)) = decide (p < q) := by
  simp only [pd, pds_ints, PySem.W.dataLt_tuple]
  exact PySem.W.dataLt_ints p q
theorem sortV_pv (L : List (List Int)) : sortV (L.map pv) = (pl L).map pv := by
  unfold sortV pl
  refine (List.map_mergeSort fun a ha b hb => ?_).symm
  show lePv a b = !PySem.W.dataLt (pd (pv b)) (pd (pv a))
  rw [dataLt_pv]
  unfold lePv
  by_cases h : b < a
  · have h' : ¬ a ≤ b := fun r => List.not_lt.mpr r h
    simp [h, h']
  · have h' : a ≤ b := List.not_lt.mp h
    simp [h, h']
theorem vSorted_pv {L : List (List Int)} (hd : L = [] ∨ ∃ r, L = [] :: r) (h : Hv) : vSorted (.lst (L.map pv)) h = .ok (.lst ((pl L).map pv)) h := by
  obtain ⟨_, _, _, e⟩ := sorted_pv hd h
  unfold vSorted at e ⊢
  simp only [lstOf] at e ⊢
  split at e
  · rename_i o
    rw [if_pos o, sortV_pv]
  · cases e
theorem el_perm : ∀ (s : Sh) (p : List Int), ((elems s p).map (·.1)).Perm (pathsOf s p)
  | .nil, _ => .refl _
  | .one l c, p => by simp only [elems, pathsOf, List.map_cons]; exact (el_perm c _).cons _
  | .two l a b, p => by
    simp only [elems, pathsOf, List.map_cons, List.map_append]
    exact (((el_perm b _).append (el_perm a _)).trans List.perm_append_comm).cons _
theorem po_head : ∀ s : Sh, pathsOf s [] = [] ∨ ∃ r, pathsOf s [] = [] :: r
  | .nil => .inl rfl
  | .one l c => .inr ⟨_, rfl⟩
  | .two l a b => .inr ⟨_, rfl⟩
abbrev listed (s : Sh) : List (List Int) := pl (pathsOf s [])
theorem all_a {k : Nat} {s : Sh} {h : Hv} (g : s.good) (hs : s.size ≤ 1000) : lev D (k + 1) 2 [s.val] h = .ok (.lst ((elems s []).map ev)) h := eq_of (all_el g hs ⟨rfl, rfl⟩)
theorem size_a {k : Nat} {s : Sh} {h : Hv} (g : s.good) (hs : s.size ≤ 1000) : lev D (k + 2) 3 [s.val] h = .ok (.int s.size) h := by
  refine eq_of ?_
  show ok (runDef 1 (b_size (lev D (k + 1))) [s.val] h) _
  rw [ok_run]
  refine ret_ ?_
  simp [dVar, all_a (k := k) g hs, el_len]
theorem paths_a {k : Nat} {s : Sh} {h : Hv} (g : s.good) (hs : s.size ≤ 1000) : lev D (k + 2) 4 [s.val] h = .ok (.lst ((listed s).map pv)) h := by
  refine eq_of ?_
  show ok (runDef 3 (b_paths (lev D (k + 1))) [s.val] h) _
  rw [ok_run]
  simp [b_paths, dVar, all_a (k := k) g hs]
  refine lc_pure (fun _ => true) (fun v => match v with | .tup [a, _] => a | v => v) trivial ?_ ?_
  · intro x hx
    obtain ⟨q, _, rfl⟩ := List.mem_map.mp hx
    simp [ev, gTup, gsCons, gsNil, wipeL, dVar]
  · have e : (List.filter (fun _ => true) ((elems s []).map ev)).map (fun v => match v with | .tup [a, _] => a | v => v) = ((elems s []).map (·.1)).map pv := by
      generalize elems s [] = l
      induction l with
      | nil => rfl
      | cons a l ih => simp only [List.map_cons, List.filter_cons, if_true] at ih ⊢; rw [ih]; rfl
    rw [e, vSorted_pv (el_head s), pl_perm (el_perm s [])]
    exact ⟨rfl, rfl⟩
theorem lpaths_a {s : Sh} {k : Nat} {p : List Int} {h : Hv} (g : s.good) (hl : p.length + s.size ≤ 1000) : lev D (k + s.size + 1) 16 [s.val, pv p] h = .ok (.lst ((pathsOf s p).map pv)) h := eq_of (lpaths s g hl ⟨rfl, rfl⟩)
theorem listed_len (s : Sh) : (listed s).length = s.size := by rw [(pl_self _).length_eq, paths_len]
/-! parts -/
def go : Sh → List Int → Option Sh
  | s, [] => some s
  | .nil, _ :: _ => none
  | .one _ c, w :: r => if w = 0 then go c r else none
  | .two _ a b, w :: r => if w = 0 then go a r else if w = 1 then go b r else none
theorem mem_paths : ∀ (s : Sh) (p q : List Int), q ∈ pathsOf s p ↔ ∃ r c, q = p ++ r ∧ go s r = some c ∧ c.isNil = false
  | .nil, p, q => by
    simp only [pathsOf, List.not_mem_nil, false_iff]
    rintro ⟨r, c, rfl, e, z⟩
    cases r with
    | nil => cases e; cases z
    | cons w r => cases e
  | .one l a, p, q => by
    simp only [pathsOf, List.mem_cons, mem_paths a]
    constructor
    · rintro (rfl | ⟨r, c, rfl, e, z⟩)
      · exact ⟨[], _, by simp, rfl, rfl⟩
      · exact ⟨0 :: r, c, by simp, by simpa [go] using e, z⟩
    · rintro ⟨r, c, rfl, e, z⟩
      cases r with
      | nil => exact .inl (by simp)
      | cons w r =>
        simp only [go] at e
        split at e
        · rename_i hw
          subst hw
          exact .inr ⟨r, c, by simp, e, z⟩
        · cases e
  | .two l a b, p, q => by
    simp only [pathsOf, List.mem_cons, List.mem_append, mem_paths a, mem_paths b]
    constructor
    · rintro (rfl | ⟨r, c, rfl, e, z⟩ | ⟨r, c, rfl, e, z⟩)
      · exact ⟨[], _, by simp, rfl, rfl⟩
      · exact ⟨0 :: r, c, by simp, by simpa [go] using e, z⟩
      · exact ⟨1 :: r, c, by simp, by simpa [go] using e, z⟩
    · rintro ⟨r, c, rfl, e, z⟩
      cases r with
      | nil => exact .inl (by simp)
      | cons w r =>
        simp only [go] at e
        split at e
        · rename_i hw
          subst hw
          exact .inr (.inl ⟨r, c, by simp, e, z⟩)
        · split at e
          · rename_i hw
            subst hw
            exact .inr (.inr ⟨r, c, by simp, e, z⟩)
          · cases e
theorem mem_listed {s : Sh} {q : List Int} : q ∈ listed s ↔ ∃ c, go s q = some c ∧ c.isNil = false := by
  rw [(pl_self _).mem_iff, mem_paths]
  simp
theorem inSeq_pvL (p : List Int) (s : List (List Int)) (h : Hv) : vIn (pv p) (.lst (s.map pv)) h = .ok (.bl (decide (p ∈ s))) h := by
  have := vIn_pv p s h
  simpa [vIn, isIn, seqOf, lstOf] using this
end L01
set_option Elab.async false
set_option linter.all false
set_option maxRecDepth 100000
set_option maxHeartbeats 1000000
set_option autoImplicit false
namespace L01
open GH PySem
abbrev NSE : Tx := [78, 111, 83, 117, 99, 104, 69, 108, 101, 109, 101, 110, 116]
def child : Sh → Int → Option Sh
  | .nil, _ => none
  | .one _ c, w => if w = 0 then some c else none
  | .two _ a b, w => if w = 0 then some a else if w = 1 then some b else none
theorem go_nil (s : Sh) : go s [] = some s := by cases s <;> rfl
theorem go_cons (s : Sh) (w : Int) (r : List Int) : go s (w :: r) = (child s w).bind fun c => go c r := by
  cases s with
  | nil => rfl
  | one l c => simp only [go, child]; split <;> rfl
  | two l a b => simp only [go, child]; split <;> (try split) <;> rfl
section
variable {l : GH.Loc} {h : Hv} {s c : Sh} {w : Int} {i j : Nat}
theorem way_test (hi : l[i]? = some (some s.val)) (hj : l[j]? = some (some (.int w))) :
    (dOr (dNot (dTru (dVar i))) (dOr (dB (dBin vGe (dBin vAdd (dVar j) (dC (.int 1))) (dLen (dVar i)))) (dB (dBin vLt (dVar j) (dC (.int 0)))))) l h = .ok (child s w).isNone h := by
  cases s with
  | nil => simp [dVar, hi, Sh.val, child]
  | one lb c =>
    simp only [e_or, e_not, e_tru, dVar, hi, hj, Res.bind_ok, Sh.val, tru_tup, e_b, e_bin, e_len, e_c, vAdd_int, vLen_tup, vGe_int, vLt_int, resB_bl, child]
    by_cases h0 : w = 0
    · subst h0; simp
    · simp [h0]; omega
  | two lb a b =>
    simp only [e_or, e_not, e_tru, dVar, hi, hj, Res.bind_ok, Sh.val, tru_tup, e_b, e_bin, e_len, e_c, vAdd_int, vLen_tup, vGe_int, vLt_int, resB_bl, child]
    by_cases h0 : w = 0
    · subst h0; simp
    · by_cases h1 : w = 1
      · subst h1; simp
      · simp [h0, h1]; omega
theorem way_ix (hi : l[i]? = some (some s.val)) (hj : l[j]? = some (some (.int w))) (e : child s w = some c) : dBin vIx (dVar i) (dBin vAdd (dVar j) (dC (.int 1))) l h = .ok c.val h := by
  simp only [e_bin, dVar, hi, hj, Res.bind_ok, e_c, vAdd_int]
  cases s with
  | nil => cases e
  | one lb a =>
    simp only [child] at e
    split at e
    · rename_i h0
      subst h0
      cases e
      simp [Sh.val]
    · cases e
  | two lb a b =>
    simp only [child] at e
    split at e
    · rename_i h0
      subst h0
      cases e
      simp [Sh.val]
    · split at e
      · rename_i h1
        subst h1
        cases e
        simp [Sh.val]
      · cases e
end
noncomputable def pBody : Stm := (sSeq (sIf (dOr (dNot (dTru (dVar 2))) (dOr (dB (dBin vGe (dBin vAdd (dVar 3) (dC (.int 1))) (dLen (dVar 2)))) (dB (dBin vLt (dVar 3) (dC (.int 0)))))) (sSeq (sRaise [78, 111, 83, 117, 99, 104, 69, 108, 101, 109, 101, 110, 116])
    sNext) sNext)
    (sSeq (sAsg (dBin vIx (dVar 2) (dBin vAdd (dVar 3) (dC (.int 1)))) (gName 2))
    sNext))
theorem part_loop {src : List Val} {h : Hv} {v0 v1 : Option Val} : ∀ (q : List Int) (s : Sh) (x : Option Val),
    (∀ c, go s q = some c → ∃ x', forL (gName 3) pBody (src, none) (q.map .int) [v0, v1, some s.val, x] h = .nx [v0, v1, some c.val, x'] h) ∧
    (go s q = none → ∃ l', forL (gName 3) pBody (src, none) (q.map .int) [v0, v1, some s.val, x] h = .exc ⟨NSE, []⟩ l' h)
  | [], s, x => by
    rw [go_nil]
    exact ⟨fun c e => by
      cases e
      exact ⟨x, by simp [forL]⟩, fun e => by cases e⟩
  | w :: r, s, x => by
    have st : forL (gName 3) pBody (src, none) ((w :: r).map .int) [v0, v1, some s.val, x] h = (pBody [v0, v1, some s.val, some (.int w)] h).turn (forL (gName 3) pBody (src, none) (r.map .int)) := by
      simp only [List.map_cons, forL, srcOk_none, if_true, e_name, List.set_cons_succ, List.set_cons_zero]
    have c1 := way_test (l := [v0, v1, some s.val, some (.int w)]) (h := h) (s := s) (w := w) (i := 2) (j := 3) rfl rfl
    rw [st, go_cons]
    rw [show pBody [v0, v1, some s.val, some (.int w)] h = _ from raise_if c1]
    cases hc : child s w with
    | none => exact ⟨fun c e => (by cases e), fun _ => ⟨_, rfl⟩⟩
    | some c =>
      have e1 := way_ix (l := [v0, v1, some s.val, some (.int w)]) (h := h) (i := 2) (j := 3) rfl rfl hc
      rw [if_neg (by simp), asg_eq e1 (l1 := [v0, v1, some c.val, some (.int w)]) rfl]
      have ih := part_loop (src := src) (h := h) (v0 := v0) (v1 := v1) r c (some (.int w))
      simpa using ih
def prt (s : Sh) (q : List Int) : Option Sh := (go s q).bind fun c => if c.isNil then none else some c
theorem tru_sh (c : Sh) (h : Hv) : vTru c.val h = .ok (!c.isNil) h := by cases c <;> simp [Sh.val, Sh.isNil]
theorem part_a {k : Nat} {s : Sh} {q : List Int} {h : Hv} : lev D (k + 1) 5 [s.val, pv q] h = match prt s q with
    | some c => .ok c.val h
    | none => .exc ⟨NSE, []⟩ h := by
  show runDef 4 (b_part (lev D k)) [s.val, pv q] h = _
  have st : b_part (lev D k) [some s.val, some (pv q), none, none] h = (forL (gName 3) pBody (q.map .int, none) (q.map .int) [some s.val, some (pv q), some s.val, none] h).andThen (sSeq (sIf (dNot (dTru (dVar 2))) (sSeq (sRaise [78, 111, 83, 117, 99, 104, 69, 108, 101, 109, 101, 110, 116])
    sNext) sNext)
    (sSeq (sRet (dVar 2))
    sNext)) := by
    unfold b_part
    rw [asg_eq (v := s.val) (h1 := h) (by simp [dVar]) (l1 := [some s.val, some (pv q), some s.val, none]) rfl]
    rw [e_seq, e_for]
    simp only [e_iseq, dVar, List.getElem?_cons_succ, List.getElem?_cons_zero, Res.bind_ok, vIter_tup, Res.to_ok]
    rfl
  obtain ⟨a, b⟩ := part_loop (src := q.map .int) (h := h) (v0 := some s.val) (v1 := some (pv q)) q s none
  unfold prt
  cases hg : go s q with
  | none =>
    obtain ⟨l', e⟩ := b hg
    rw [e] at st
    exact run_exc st
  | some c =>
    obtain ⟨x', e⟩ := a c hg
    rw [e] at st
    simp only [SRes.andThen_nx] at st
    have c1 : dNot (dTru (dVar 2)) [some s.val, some (pv q), some c.val, x'] h = .ok c.isNil h := by simp [dVar, tru_sh]
    rw [raise_if c1] at st
    cases hn : c.isNil with
    | true =>
      rw [hn] at st
      simp only [Option.bind_some, hn, if_true]
      exact run_exc st
    | false =>
      rw [hn] at st
      simp only [Option.bind_some, hn, Bool.false_eq_true, if_false]
      exact run_rt (st.trans (by simp [dVar]))
def prtv (s : Sh) (q : List Int) : Val := match prt s q with
  | some c => c.val
  | none => .str noneT
theorem try_part_a {k : Nat} {s : Sh} {q : List Int} {h : Hv} : lev D (k + 2) 20 [s.val, pv q] h = .ok (prtv s q) h := by
  show runDef 3 (b__law_try_part (lev D (k + 1))) [s.val, pv q] h = _
  have e := part_a (k := k) (s := s) (q := q) (h := h)
  have e1 : dCall (lev D (k + 1) 5) (dCons (dVar 0) (dCons (dVar 1) dNil)) [some s.val, some (pv q), none] h = lev D (k + 1) 5 [s.val, pv q] h := by simp [dVar]
  have run : b__law_try_part (lev D (k + 1)) [some s.val, some (pv q), none] h = .rt (prtv s q) h := by
    unfold b__law_try_part prtv
    rw [e_seq]
    cases hr : prt s q with
    | none =>
      rw [hr] at e
      rw [e] at e1
      simp only [sTry, asg_ex e1]
      rfl
    | some d =>
      rw [hr] at e
      rw [e] at e1
      simp only [sTry, e_seq, e_asg, e1, Res.to_ok, e_name, TRes.s_ok, SRes.andThen_nx, List.set_cons_succ, List.set_cons_zero, e_ret, e_dif, isi_sh (l := [some s.val, some (pv q), some d.val]) (i := 2) rfl, Res.bind_ok, Bool.false_eq_true, if_false, dVar, List.getElem?_cons_succ, List.getElem?_cons_zero, Res.to_ok, SRes.andThen_rt]
  exact run_rt run
noncomputable def lpBody : Stm := (sSeq (sAsg (dBin vIx (dVar 0) (dBin vAdd (dVar 2) (dC (.int 1)))) (gName 0))
    sNext)
theorem lpart_loop {src : List Val} {h : Hv} {v1 : Option Val} : ∀ (q : List Int) (s : Sh) (x : Option Val) (c : Sh), go s q = some c → ∃ x', forL (gName 2) lpBody (src, none) (q.map .int) [some s.val, v1, x] h = .nx [some c.val, v1, x'] h
  | [], s, x, c, e => by
    rw [go_nil] at e
    cases e
    exact ⟨x, by simp [forL]⟩
  | w :: r, s, x, c, e => by
    rw [go_cons] at e
    cases hc : child s w with
    | none => rw [hc] at e; cases e
    | some d =>
      rw [hc] at e
      have st : forL (gName 2) lpBody (src, none) ((w :: r).map .int) [some s.val, v1, x] h = (lpBody [some s.val, v1, some (.int w)] h).turn (forL (gName 2) lpBody (src, none) (r.map .int)) := by
        simp only [List.map_cons, forL, srcOk_none, if_true, e_name, List.set_cons_succ, List.set_cons_zero]
      have e1 := way_ix (l := [some s.val, v1, some (.int w)]) (h := h) (i := 0) (j := 2) rfl rfl hc
      obtain ⟨x', ih⟩ := lpart_loop (src := src) (h := h) (v1 := v1) r d (some (.int w)) c e
      refine ⟨x', ?_⟩
      rw [st]
      rw [show lpBody [some s.val, v1, some (.int w)] h = _ from asg_eq e1 (l1 := [some d.val, v1, some (.int w)]) rfl]
      simpa using ih
theorem lpart_a {k : Nat} {s : Sh} {q : List Int} {h : Hv} {c : Sh} (e : go s q = some c) : lev D (k + 1) 17 [s.val, pv q] h = .ok c.val h := by
  show runDef 3 (b__law_part (lev D k)) [s.val, pv q] h = _
  obtain ⟨x', a⟩ := lpart_loop (src := q.map .int) (h := h) (v1 := some (pv q)) q s none c e
  have st : b__law_part (lev D k) [some s.val, some (pv q), none] h = .rt c.val h := by
    unfold b__law_part
    rw [e_seq, e_for]
    simp only [e_iseq, dVar, List.getElem?_cons_succ, List.getElem?_cons_zero, Res.bind_ok, vIter_tup, Res.to_ok]
    show (forL (gName 2) lpBody (q.map .int, none) (q.map .int) [some s.val, some (pv q), none] h).andThen _ = _
    rw [a]
    simp [dVar]
  exact run_rt st
end L01
set_option Elab.async false
set_option linter.all false
set_option maxRecDepth 100000
set_option maxHeartbeats 1000000
set_option autoImplicit false
namespace L01
open GH PySem
def rep (f : Sh × Int) (x : Sh) : Sh := match f.1 with
  | .nil => .nil
  | .one l _ => .one l x
  | .two l a b => if f.2 = 0 then .two l x b else .two l a x
def frv (f : Sh × Int) : Val := .tup [f.1.val, .int f.2]
def fr : Sh → List Int → List (Sh × Int)
  | _, [] => []
  | s, w :: r => (s, w) :: (match child s w with
    | some c => fr c r
    | none => [])
def put : Sh → List Int → Sh → Sh
  | _, [], x => x
  | s, w :: r, x => match child s w with
    | some c => rep (s, w) (put c r x)
    | none => s
theorem put_fold : ∀ (q : List Int) (s x : Sh) {c : Sh}, go s q = some c → (fr s q).foldr rep x = put s q x
  | [], s, x, c, e => rfl
  | w :: r, s, x, c, e => by
    rw [go_cons] at e
    cases hc : child s w with
    | none => rw [hc] at e; cases e
    | some d =>
      rw [hc] at e
      simp only [fr, put, hc, List.foldr_cons, put_fold r d x e]
theorem fr_ok : ∀ (q : List Int) (s : Sh), ∀ f ∈ fr s q, go s q ≠ none → (child f.1 f.2).isSome = true
  | [], s, f, hf, _ => by cases hf
  | w :: r, s, f, hf, e => by
    rw [go_cons] at e
    cases hc : child s w with
    | none => rw [hc] at e; exact absurd rfl e
    | some d =>
      rw [hc] at e
      simp only [fr, hc, List.mem_cons] at hf
      rcases hf with rfl | hf
      · simp [hc]
      · exact fr_ok r d f hf e
theorem fr_len : ∀ (q : List Int) (s : Sh), (fr s q).length ≤ q.length
  | [], s => Nat.le_refl _
  | w :: r, s => by
    simp only [fr]
    cases hc : child s w with
    | none => simp
    | some d => have := fr_len r d; simp; omega
noncomputable def wpBody : Stm := (sSeq (sIf (dOr (dNot (dTru (dVar 4))) (dOr (dB (dBin vGe (dBin vAdd (dVar 5) (dC (.int 1))) (dLen (dVar 4)))) (dB (dBin vLt (dVar 5) (dC (.int 0)))))) (sSeq (sRaise [78, 111, 83, 117, 99, 104, 69, 108, 101, 109, 101, 110, 116])
    sNext) sNext)
    (sSeq (sExpr (dMeth1 isLst vAppend (dVar 3) (dTup (dCons (dVar 4) (dCons (dVar 5) dNil)))))
    (sSeq (sAsg (dBin vIx (dVar 4) (dBin vAdd (dVar 5) (dC (.int 1)))) (gName 4))
    sNext)))
theorem h1at {h : Hv} {o : Ob} : (h ++ [o])[h.length]? = some o := by simp
theorem h1set {h : Hv} {o o' : Ob} : (h ++ [o]).set h.length o' = h ++ [o'] := by simp
theorem with_loop {src : List Val} {h : Hv} {v0 v1 v2 y z : Option Val} : ∀ (q : List Int) (s : Sh) (x : Option Val) (F : List (Sh × Int)), F.length + q.length ≤ 1000 →
    (∀ c, go s q = some c → ∃ x', forL (gName 5) wpBody (src, none) (q.map .int) [v0, v1, v2, some (.ref h.length), some s.val, x, y, z] (h ++ [.lst (F.map frv)]) = .nx [v0, v1, v2, some (.ref h.length), some c.val, x', y, z] (h ++ [.lst ((F ++ fr s q).map frv)])) ∧
    (go s q = none → ∃ l' g, forL (gName 5) wpBody (src, none) (q.map .int) [v0, v1, v2, some (.ref h.length), some s.val, x, y, z] (h ++ [.lst (F.map frv)]) = .exc ⟨NSE, []⟩ l' (h ++ g))
  | [], s, x, F, _ => by
    rw [go_nil]
    exact ⟨fun c e => by
      cases e
      exact ⟨x, by simp [forL, fr]⟩, fun e => by cases e⟩
  | w :: r, s, x, F, hF => by
    simp only [List.length_cons] at hF
    have st : forL (gName 5) wpBody (src, none) ((w :: r).map .int) [v0, v1, v2, some (.ref h.length), some s.val, x, y, z] (h ++ [.lst (F.map frv)]) = (wpBody [v0, v1, v2, some (.ref h.length), some s.val, some (.int w), y, z] (h ++ [.lst (F.map frv)])).turn (forL (gName 5) wpBody (src, none) (r.map .int)) := by
      simp only [List.map_cons, forL, srcOk_none, if_true, e_name, List.set_cons_succ, List.set_cons_zero]
    have c1 := way_test (l := [v0, v1, v2, some (.ref h.length), some s.val, some (.int w), y, z]) (h := h ++ [.lst (F.map frv)]) (s := s) (w := w) (i := 4) (j := 5) rfl rfl
    rw [st, go_cons, show wpBody [v0, v1, v2, some (.ref h.length), some s.val, some (.int w), y, z] (h ++ [.lst (F.map frv)]) = _ from raise_if c1]
    cases hc : child s w with
    | none => exact ⟨fun c e => (by cases e), fun _ => ⟨_, _, rfl⟩⟩
    | some c =>
      have e0 := app1 (l := [v0, v1, v2, some (.ref h.length), some s.val, some (.int w), y, z]) (i := 3) (j := h.length) (L := F.map frv) (d := dTup (dCons (dVar 4) (dCons (dVar 5) dNil))) (v := frv (s, w)) (h := h ++ [.lst (F.map frv)]) rfl h1at
        (by simp [dVar, mkT_ok, frv]) (by simp; omega)
      rw [h1set] at e0
      have e1 := way_ix (l := [v0, v1, v2, some (.ref h.length), some s.val, some (.int w), y, z]) (h := h ++ [.lst (F.map frv ++ [frv (s, w)])]) (i := 4) (j := 5) rfl rfl hc
      rw [if_neg (by simp), expr_eq e0, asg_eq e1 (l1 := [v0, v1, v2, some (.ref h.length), some c.val, some (.int w), y, z]) rfl]
      have ih := with_loop (src := src) (h := h) (v0 := v0) (v1 := v1) (v2 := v2) (y := y) (z := z) r c (some (.int w)) (F ++ [(s, w)]) (by simp; omega)
      simp only [List.map_append, List.map_cons, List.map_nil, List.append_assoc, List.cons_append, List.nil_append] at ih
      simp only [e_next, SRes.turn_nx, Option.bind_some, fr, hc, List.map_append, List.map_cons]
      exact ih
theorem add_tup2 (a b : List Val) (h : Hv) (e : a.length + b.length ≤ 16777216) : vAdd (.tup a) (.tup b) h = .ok (.tup (a ++ b)) h := add_tup e
theorem rep_val {l : GH.Loc} {h : Hv} {s c x : Sh} {w : Int} {i j : Nat} {d : Den} (hi : l[i]? = some (some s.val)) (hj : l[j]? = some (some (.int w))) (hd : d l h = .ok x.val h) (e : child s w = some c) :
    (dBin vAdd (dBin vAdd (dCut (dVar i) oNone (oSome (dBin vAdd (dVar j) (dC (.int 1))))) (dTup (dCons d dNil))) (dCut (dVar i) (oSome (dBin vAdd (dVar j) (dC (.int 2)))) oNone)) l h = .ok (rep (s, w) x).val h := by
  have mk1 : ∀ h, mkTup [x.val] h = .ok (.tup [x.val]) h := fun h => mkT_ok (by simp)
  simp only [e_bin, e_cut, dVar, hi, hj, Res.bind_ok, e_onone, e_osome, e_c, vAdd_int, e_tup, e_cons, e_nil]
  cases s with
  | nil => cases e
  | one lb a =>
    simp only [child] at e
    split at e
    · rename_i h0
      subst h0
      have q1 : ∀ h, vCut (.tup [.str lb, a.val]) none (some (0 + 1)) h = .ok (.tup [.str lb]) h := fun h => rfl
      have q2 : ∀ h, vCut (.tup [.str lb, a.val]) (some (0 + 2)) none h = .ok (.tup []) h := fun h => rfl
      simp only [Sh.val, rep, Res.bind_ok, q1, q2, hd, mk1]
      rw [add_tup2 _ _ _ (by simp), Res.bind_ok, add_tup2 _ _ _ (by simp)]
      rfl
    · cases e
  | two lb a b =>
    simp only [child] at e
    split at e
    · rename_i h0
      subst h0
      have q1 : ∀ h, vCut (.tup [.str lb, a.val, b.val]) none (some (0 + 1)) h = .ok (.tup [.str lb]) h := fun h => rfl
      have q2 : ∀ h, vCut (.tup [.str lb, a.val, b.val]) (some (0 + 2)) none h = .ok (.tup [b.val]) h := fun h => rfl
      simp only [Sh.val, rep, Res.bind_ok, q1, q2, hd, mk1]
      rw [add_tup2 _ _ _ (by simp), Res.bind_ok, add_tup2 _ _ _ (by simp)]
      rfl
    · split at e
      · rename_i h1
        subst h1
        have q1 : ∀ h, vCut (.tup [.str lb, a.val, b.val]) none (some (1 + 1)) h = .ok (.tup [.str lb, a.val]) h := fun h => rfl
        have q2 : ∀ h, vCut (.tup [.str lb, a.val, b.val]) (some (1 + 2)) none h = .ok (.tup []) h := fun h => rfl
        simp only [Sh.val, rep, Res.bind_ok, q1, q2, hd, mk1]
        rw [add_tup2 _ _ _ (by simp), Res.bind_ok, add_tup2 _ _ _ (by simp)]
        rfl
      · cases e
noncomputable def rBody : Stm := (sSeq (sAsg (dBin vAdd (dBin vAdd (dCut (dVar 7) oNone (oSome (dBin vAdd (dVar 5) (dC (.int 1))))) (dTup (dCons (dVar 6) dNil))) (dCut (dVar 7) (oSome (dBin vAdd (dVar 5) (dC (.int 2)))) oNone)) (gName 6))
    sNext)
theorem rep_loop {src : List Val} {h : Hv} {v0 v1 v2 v3 v4 : Option Val} : ∀ (R : List (Sh × Int)) (x : Sh) (y z : Option Val), (∀ f ∈ R, (child f.1 f.2).isSome = true) →
    ∃ y' z', forL (gTup 2 (gsCons (gName 7) (gsCons (gName 5) gsNil))) rBody (src, none) (R.map frv) [v0, v1, v2, v3, v4, y, some x.val, z] h = .nx [v0, v1, v2, v3, v4, y', some (R.foldl (fun x f => rep f x) x).val, z'] h
  | [], x, y, z, _ => ⟨y, z, by simp [forL]⟩
  | (s, w) :: R, x, y, z, hR => by
    obtain ⟨c, hc⟩ := Option.isSome_iff_exists.mp (hR (s, w) (List.mem_cons_self ..))
    have st : forL (gTup 2 (gsCons (gName 7) (gsCons (gName 5) gsNil))) rBody (src, none) (((s, w) :: R).map frv) [v0, v1, v2, v3, v4, y, some x.val, z] h = (rBody [v0, v1, v2, v3, v4, some (.int w), some x.val, some s.val] h).turn (forL (gTup 2 (gsCons (gName 7) (gsCons (gName 5) gsNil))) rBody (src, none) (R.map frv)) := by
      simp only [List.map_cons, forL, srcOk_none, if_true, frv, gTup, gsCons, gsNil, List.length_cons, List.length_nil, e_name, TRes.bind_ok, List.set_cons_succ, List.set_cons_zero]
    have e1 := rep_val (l := [v0, v1, v2, v3, v4, some (.int w), some x.val, some s.val]) (h := h) (i := 7) (j := 5) (d := dVar 6) (x := x) rfl rfl (by simp [dVar]) hc
    obtain ⟨y', z', ih⟩ := rep_loop (src := src) (h := h) (v0 := v0) (v1 := v1) (v2 := v2) (v3 := v3) (v4 := v4) R (rep (s, w) x) (some (.int w)) (some s.val) fun f hf => hR f (List.mem_cons_of_mem _ hf)
    refine ⟨y', z', ?_⟩
    rw [st, show rBody [v0, v1, v2, v3, v4, some (.int w), some x.val, some s.val] h = _ from asg_eq e1 (l1 := [v0, v1, v2, v3, v4, some (.int w), some (rep (s, w) x).val, some s.val]) rfl]
    exact ih
theorem put_okv {n : Int} {ls : List Tx} : ∀ (q : List Int) (s x : Sh), s.ok n ls → x.ok n ls → (put s q x).ok n ls
  | [], s, x, _, o => o
  | w :: r, s, x, g, o => by
    simp only [put]
    cases s with
    | nil => simpa [child] using g
    | one l a =>
      simp only [child]
      split
      · rename_i c hc
        split at hc
        · cases hc
          exact ⟨g.1, g.2.1, put_okv r a x g.2.2 o⟩
        · cases hc
      · exact g
    | two l a b =>
      simp only [child]
      split
      · rename_i c hc
        split at hc
        · rename_i h0
          cases hc
          simp only [rep, h0, if_true]
          exact ⟨g.1, g.2.1, put_okv r a x g.2.2.1 o, g.2.2.2⟩
        · rename_i h0
          split at hc
          · cases hc
            simp only [rep, h0, if_false]
            exact ⟨g.1, g.2.1, g.2.2.1, put_okv r b x g.2.2.2 o⟩
          · cases hc
      · exact g
theorem with_a {n : Int} {ls : List Tx} (kk : KOk n ls) {k : Nat} {s x : Sh} {q : List Int} {h : Hv} (gs : s.ok n ls) (gx : x.ok n ls) (hq : q.length ≤ 1000) : lev D (k + 1) 6 [s.val, pv q, x.val] h = if (go s q).isSome = true then .ok (put s q x).val h else .exc ⟨NSE, []⟩ h := by
  show tidy (runDef 8 (b_with_part (lev D k)) [s.val, pv q, x.val] h) h = _
  have st : b_with_part (lev D k) [some s.val, some (pv q), some x.val, none, none, none, none, none] h = (forL (gName 5) wpBody (q.map .int, none) (q.map .int) [some s.val, some (pv q), some x.val, some (.ref h.length), some s.val, none, none, none] (h ++ [.lst []])).andThen
      (sSeq (sAsg (dVar 2) (gName 6))
    (sSeq (sFor (iSeq (dFn vRev (dVar 3))) (gTup 2 (gsCons (gName 7) (gsCons (gName 5) gsNil))) rBody)
    (sSeq (sRet (dVar 6))
    sNext))) := by
    unfold b_with_part
    rw [asg_eq (v := .ref h.length) (h1 := h ++ [.lst []]) (by simp [mkRef, lineN]) (l1 := [some s.val, some (pv q), some x.val, some (.ref h.length), none, none, none, none]) rfl]
    rw [asg_eq (v := s.val) (h1 := h ++ [.lst []]) (by simp [dVar]) (l1 := [some s.val, some (pv q), some x.val, some (.ref h.length), some s.val, none, none, none]) rfl]
    rw [e_seq, e_for]
    simp only [e_iseq, dVar, List.getElem?_cons_succ, List.getElem?_cons_zero, Res.bind_ok, vIter_tup, Res.to_ok]
    rfl
  obtain ⟨a, b⟩ := with_loop (src := q.map .int) (h := h) (v0 := some s.val) (v1 := some (pv q)) (v2 := some x.val) (y := none) (z := none) q s none [] (by simpa using hq)
  cases hg : go s q with
  | none =>
    obtain ⟨l', g, e⟩ := b hg
    simp only [List.map_nil] at e
    rw [e] at st
    rw [if_neg (by simp)]
    exact tidy_excE (run_exc st)
  | some c =>
    obtain ⟨x', e⟩ := a c hg
    simp only [List.map_nil, List.nil_append] at e
    rw [e] at st
    simp only [SRes.andThen_nx] at st
    rw [asg_eq (v := x.val) (h1 := h ++ [.lst ((fr s q).map frv)]) (by simp [dVar]) (l1 := [some s.val, some (pv q), some x.val, some (.ref h.length), some c.val, x', some x.val, none]) rfl] at st
    have hrev : vRev (.ref h.length) (h ++ [.lst ((fr s q).map frv)]) = .ok (.lst ((fr s q).reverse.map frv)) (h ++ [.lst ((fr s q).map frv)]) := by
      simp [vRev, lstOf]
    obtain ⟨y', z', e2⟩ := rep_loop (src := (fr s q).reverse.map frv) (h := h ++ [.lst ((fr s q).map frv)]) (v0 := some s.val) (v1 := some (pv q)) (v2 := some x.val) (v3 := some (.ref h.length)) (v4 := some c.val) (fr s q).reverse x x' none
      (fun f hf => fr_ok q s f (List.mem_reverse.mp hf) (by rw [hg]; simp))
    rw [e_seq, e_for] at st
    simp only [e_iseq, e_fn, dVar, List.getElem?_cons_succ, List.getElem?_cons_zero, Res.bind_ok, hrev, vIter_lst, Res.to_ok, e2, SRes.andThen_nx, e_seq, e_ret, SRes.andThen_rt, List.foldl_reverse] at st
    rw [if_pos (by simp)]
    have pf := put_fold q s x hg
    refine tidy_okE (g := [.lst ((fr s q).map frv)]) (run_rt (st.trans ?_)) (Sh.okv kk (put_okv q s x gs gx))
    rw [← pf]
def putv (s : Sh) (q : List Int) (x : Sh) : Val := if (go s q).isSome = true then (put s q x).val else .str noneT
theorem try_with_a {n : Int} {ls : List Tx} (kk : KOk n ls) {k : Nat} {s x : Sh} {q : List Int} {h : Hv} (gs : s.ok n ls) (gx : x.ok n ls) (hq : q.length ≤ 1000) : lev D (k + 2) 21 [s.val, pv q, x.val] h = .ok (putv s q x) h := by
  show runDef 4 (b__law_try_with (lev D (k + 1))) [s.val, pv q, x.val] h = _
  have e := with_a kk (k := k) (h := h) gs gx hq
  have e1 : dCall (lev D (k + 1) 6) (dCons (dVar 0) (dCons (dVar 1) (dCons (dVar 2) dNil))) [some s.val, some (pv q), some x.val, none] h = lev D (k + 1) 6 [s.val, pv q, x.val] h := by simp [dVar]
  have run : b__law_try_with (lev D (k + 1)) [some s.val, some (pv q), some x.val, none] h = .rt (putv s q x) h := by
    unfold b__law_try_with putv
    rw [e_seq]
    cases hr : (go s q).isSome with
    | false =>
      rw [hr, if_neg (by simp)] at e
      rw [e] at e1
      simp only [sTry, asg_ex e1]
      rfl
    | true =>
      rw [hr, if_pos rfl] at e
      rw [e] at e1
      simp only [sTry, e_seq, e_asg, e1, Res.to_ok, e_name, TRes.s_ok, SRes.andThen_nx, List.set_cons_succ, List.set_cons_zero, e_ret, e_dif, isi_sh (l := [some s.val, some (pv q), some x.val, some (put s q x).val]) (i := 3) rfl, Res.bind_ok, Bool.false_eq_true, if_false, dVar, List.getElem?_cons_succ, List.getElem?_cons_zero, Res.to_ok, SRes.andThen_rt, if_true]
  exact run_rt run
theorem isNil_tup (l : List Val) : okV (.tup l) = okVs l := by simp only [okV]
theorem lwith_a {x : Sh} {h : Hv} : ∀ (q : List Int) (s : Sh) {k : Nat} {c : Sh}, go s q = some c → lev D (k + q.length + 1) 22 [s.val, pv q, x.val] h = .ok (put s q x).val h
  | [], s, k, c, e => by
    refine eq_of ?_
    show ok (runDef 4 (b__law_with (lev D (k + 0))) [s.val, pv [], x.val] h) _
    rw [ok_run]
    have : vEq (pv []) (.tup []) h = .ok (.bl true) h := rfl
    exact if_ (c := true) (h := h) (by simp [dVar, mkT_ok, this]) (fun _ => ret_ (by simp [dVar, put])) (fun z => by cases z)
  | w :: r, s, k, c, e => by
    rw [go_cons] at e
    cases hc : child s w with
    | none => rw [hc] at e; cases e
    | some d =>
      rw [hc] at e
      have ih := lwith_a (x := x) (h := h) r d (k := k) e
      refine eq_of ?_
      show ok (runDef 4 (b__law_with (lev D (k + r.length + 1))) [s.val, pv (w :: r), x.val] h) _
      rw [ok_run]
      have e0 : vEq (pv (w :: r)) (pv []) h = .ok (.bl false) h := by rw [vEq_pv]; simp
      refine if_ (c := false) (h := h) (by simp [dVar, mkT_ok]; rw [show vEq (pv (w :: r)) (.tup []) h = _ from e0]; rfl) (fun z => by cases z) fun _ => ?_
      have e5 : vIx (.tup (.int w :: r.map .int)) (.int 0) h = .ok (.int w) h := t0 _ _ _
      refine asg_ (v := .int w) (h1 := h) (by simp [dVar]; exact e5) ?_
      refine ret_ (l := [some s.val, some (pv (w :: r)), some x.val, some (.int w)]) ?_
      have e1 := way_ix (l := [some s.val, some (pv (w :: r)), some x.val, some (.int w)]) (h := h) (i := 0) (j := 3) rfl rfl hc
      have e2 : vCut (pv (w :: r)) (some 1) none h = .ok (pv r) h := by
        have := cut_drop ((w :: r).map Val.int) 1
        simp only [vCut]
        rw [show (some (1 : Int)) = some ((1 : Nat) : Int) from rfl, this]
        rfl
      have e3 : dCall (lev D (k + r.length + 1) 22) (dCons (dBin vIx (dVar 0) (dBin vAdd (dVar 3) (dC (.int 1)))) (dCons (dCut (dVar 1) (oSome (dC (.int 1))) oNone) (dCons (dVar 2) dNil))) [some s.val, some (pv (w :: r)), some x.val, some (.int w)] h = .ok (put d r x).val h := by
        simp only [e_call, e_cons, e1, Res.bind_ok, e_cut, dVar, List.getElem?_cons_succ, List.getElem?_cons_zero, e_osome, e_c, e_onone, e2, e_nil, ih]
      have e4 := rep_val (l := [some s.val, some (pv (w :: r)), some x.val, some (.int w)]) (h := h) (i := 0) (j := 3) (x := put d r x) rfl rfl e3 hc
      rw [e4]
      simp [put, hc]
end L01
set_option Elab.async false
set_option linter.all false
set_option maxRecDepth 100000
set_option maxHeartbeats 1000000
set_option autoImplicit false
namespace L01
open GH PySem
/-! what is a shape -/
mutual
def wfV : Val → Bool
  | .str s => okV (.str s)
  | .tup l => wfVs l
  | _ => false
def wfVs : List Val → Bool
  | [] => true
  | a :: r => wfV a && wfVs r
end
def hd (n : Int) (ls : List Tx) : List Val → Bool
  | [] => true
  | .str a :: r => decide ((r.length : Int) = n) && decide (a ∈ ls)
  | _ => false
mutual
def isV (n : Int) (ls : List Tx) : Val → Bool
  | .tup l => hd n ls l && isT n ls l
  | _ => false
def isT (n : Int) (ls : List Tx) : List Val → Bool
  | [] => true
  | _ :: r => isVs n ls r
def isVs (n : Int) (ls : List Tx) : List Val → Bool
  | [] => true
  | a :: r => isV n ls a && isVs n ls r
end
mutual
def szV : Val → Nat
  | .tup l => szVs l + 1
  | _ => 1
def szVs : List Val → Nat
  | [] => 0
  | a :: r => szV a + szVs r
end
theorem szV_pos (v : Val) : 0 < szV v := by cases v <;> simp [szV]
theorem szVs_len : ∀ l : List Val, l.length ≤ szVs l
  | [] => by simp
  | a :: r => by
    have := szV_pos a
    have := szVs_len r
    simp only [szVs, List.length_cons]; omega
theorem szVs_app : ∀ a b : List Val, szVs (a ++ b) = szVs a + szVs b
  | [], b => by simp [szVs]
  | x :: a, b => by simp only [List.cons_append, szVs, szVs_app a b]; omega
theorem szVs_mem : ∀ {l : List Val} {v : Val}, v ∈ l → szV v ≤ szVs l
  | a :: r, v, h => by
    simp only [szVs]
    rcases List.mem_cons.mp h with rfl | h
    · omega
    · have := szVs_mem h; omega
theorem isVs_app (n : Int) (ls : List Tx) : ∀ a b : List Val, isVs n ls (a ++ b) = (isVs n ls a && isVs n ls b)
  | [], b => by simp [isVs]
  | x :: a, b => by simp only [List.cons_append, isVs, isVs_app n ls a b, Bool.and_assoc]
theorem wfVs_app : ∀ a b : List Val, wfVs (a ++ b) = (wfVs a && wfVs b)
  | [], b => by simp [wfVs]
  | x :: a, b => by simp only [List.cons_append, wfVs, wfVs_app a b, Bool.and_assoc]
theorem wfVs_mem : ∀ {l : List Val} {v : Val}, wfVs l = true → v ∈ l → wfV v = true
  | a :: r, v, o, h => by
    simp only [wfVs, Bool.and_eq_true] at o
    rcases List.mem_cons.mp h with rfl | h
    · exact o.1
    · exact wfVs_mem o.2 h
mutual
theorem wf_ok : ∀ v : Val, wfV v = true → okV v = true
  | .str s, o => o
  | .tup l, o => by simp only [wfV] at o; simp only [okV]; exact wfs_ok l o
  | .non, o => by simp [wfV] at o
  | .bl _, o => by simp [wfV] at o
  | .int _, o => by simp [wfV] at o
  | .lst _, o => by simp [wfV] at o
  | .fz _, o => by simp [wfV] at o
  | .ref _, o => by simp [wfV] at o
theorem wfs_ok : ∀ l : List Val, wfVs l = true → okVs l = true
  | [], _ => rfl
  | a :: r, o => by
    simp only [wfVs, Bool.and_eq_true] at o
    simp only [okVs, wf_ok a o.1, wfs_ok r o.2, Bool.and_self]
end
noncomputable def iBody : Stm := (sSeq (sAsg (dMeth0 isLst vPop (dVar 2)) (gName 5))
    (sSeq (sIf (dNot (dTru (dIsi .tuple (dVar 5)))) (sSeq (sRet (dC (.bl false)))
    sNext) sNext)
    (sSeq (sIf (dB (dBin vEq (dLen (dVar 5)) (dC (.int 0)))) (sSeq sCont
    sNext) sNext)
    (sSeq (sIf (dOr (dB (dBin vNe (dLen (dVar 5)) (dBin vAdd (dVar 3) (dC (.int 1))))) (dOr (dNot (dTru (dIsi .str (dBin vIx (dVar 5) (dC (.int 0)))))) (dB (dBin vNotIn (dBin vIx (dVar 5) (dC (.int 0))) (dVar 4))))) (sSeq (sRet (dC (.bl false)))
    sNext) sNext)
    (sSeq (sExpr (dMeth1 isLst (fun x v h => if (lstOf h v).isSome then vExtend x v h else .fail) (dVar 2) (dFn vList (dCut (dVar 5) (oSome (dC (.int 1))) oNone))))
    sNext)))))
noncomputable def iLoop : Stm := sSeq (sWhile (dTru (dVar 2)) iBody) (sSeq (sRet (dC (.bl true))) sNext)
theorem is_loop {n : Int} {ls : List Tx} (kk : KOk n ls) {h : Hv} {v0 v1 : Option Val} : ∀ (m : Nat) (st : List Val) (x : Option Val), szVs st ≤ m → szVs st ≤ 10000 → wfVs st = true →
    ∃ g, iLoop [v0, v1, some (.ref h.length), some (.int n), some (.tup (ls.map .str)), x] (h ++ [.lst st]) = .rt (.bl (isVs n ls st)) (h ++ g) := by
  intro m
  induction m with
  | zero =>
    intro st x hm hs wf
    cases st with
    | cons a r =>
      have := szV_pos a
      simp only [szVs] at hm; omega
    | nil =>
      refine ⟨[.lst []], ?_⟩
      unfold iLoop
      rw [e_seq, sWhile_eq]
      simp only [e_tru, dVar, List.getElem?_cons_succ, List.getElem?_cons_zero, Res.bind_ok, tru_ref (h1at (h := h)), Res.to_ok]
      rw [if_neg (by simp)]
      simp [isVs]
  | succ m ih =>
    intro st x hm hs wf
    rcases List.eq_nil_or_concat st with rfl | ⟨st, a, rfl⟩
    · refine ⟨[.lst []], ?_⟩
      unfold iLoop
      rw [e_seq, sWhile_eq]
      simp only [e_tru, dVar, List.getElem?_cons_succ, List.getElem?_cons_zero, Res.bind_ok, tru_ref (h1at (h := h)), Res.to_ok]
      rw [if_neg (by simp)]
      simp [isVs]
    · rw [List.concat_eq_append] at *
      rw [szVs_app] at hm hs
      simp only [szVs, Nat.add_zero] at hm hs
      rw [wfVs_app] at wf
      simp only [wfVs, Bool.and_true, Bool.and_eq_true] at wf
      rw [isVs_app]
      simp only [isVs, Bool.and_true]
      have ap := szV_pos a
      have e0 : dMeth0 isLst vPop (dVar 2) [v0, v1, some (.ref h.length), some (.int n), some (.tup (ls.map .str)), x] (h ++ [.lst (st ++ [a])]) = .ok a (h ++ [.lst st]) := by
        simp only [e_meth0, dVar, List.getElem?_cons_succ, List.getElem?_cons_zero, Res.bind_ok, isLst_ref (h1at (h := h)), if_true]
        rw [pop_ref (l := st) (v := a) h1at, h1set]
      have st1 : iLoop [v0, v1, some (.ref h.length), some (.int n), some (.tup (ls.map .str)), x] (h ++ [.lst (st ++ [a])]) = ((iBody [v0, v1, some (.ref h.length), some (.int n), some (.tup (ls.map .str)), x] (h ++ [.lst (st ++ [a])])).turn (sWhile (dTru (dVar 2)) iBody)).andThen (sSeq (sRet (dC (.bl true))) sNext) := by
        show sSeq _ _ _ _ = _
        rw [e_seq, sWhile_eq]
        simp only [e_tru, dVar, List.getElem?_cons_succ, List.getElem?_cons_zero, Res.bind_ok, tru_ref (h1at (h := h)), Res.to_ok]
        rw [if_pos (by simp)]
      have st2 : iBody [v0, v1, some (.ref h.length), some (.int n), some (.tup (ls.map .str)), x] (h ++ [.lst (st ++ [a])]) = _ := asg_eq e0 (l1 := [v0, v1, some (.ref h.length), some (.int n), some (.tup (ls.map .str)), some a]) rfl
      rw [st1, st2]
      cases a with
      | str s =>
        have c1 : dNot (dTru (dIsi .tuple (dVar 5))) [v0, v1, some (.ref h.length), some (.int n), some (.tup (ls.map .str)), some (.str s)] (h ++ [.lst st]) = .ok true (h ++ [.lst st]) := by simp [dVar, tyOf, isiB]
        rw [if_t c1]
        exact ⟨[.lst st], by simp [isV]⟩
      | tup l =>
        have c1 : dNot (dTru (dIsi .tuple (dVar 5))) [v0, v1, some (.ref h.length), some (.int n), some (.tup (ls.map .str)), some (.tup l)] (h ++ [.lst st]) = .ok false (h ++ [.lst st]) := by simp [dVar, tyOf, isiB]
        have c2 : dB (dBin vEq (dLen (dVar 5)) (dC (.int 0))) [v0, v1, some (.ref h.length), some (.int n), some (.tup (ls.map .str)), some (.tup l)] (h ++ [.lst st]) = .ok (decide ((l.length : Int) = 0)) (h ++ [.lst st]) := by simp [dVar]
        rw [if_f c1]
        cases l with
        | nil =>
          rw [if_t (h1 := h ++ [.lst st]) (by rw [c2]; rfl)]
          rw [show isV n ls (.tup []) = true by simp [isV, hd, isT], Bool.and_true]
          exact ih st (some (.tup [])) (by omega) (by omega) wf.1
        | cons u r =>
          have wl : wfV u = true ∧ wfVs r = true := by
            have := wf.2
            simpa only [wfV, wfVs, Bool.and_eq_true] using this
          have l0 : ((u :: r).length : Int) ≠ 0 := by simp; omega
          rw [if_f (h1 := h ++ [.lst st]) (by rw [c2]; simp only [l0, decide_false])]
          have hmr : szVs (u :: r) + 1 + szVs st ≤ m + 1 := by simp only [szV] at hm; omega
          have hsr : szVs (u :: r) + 1 + szVs st ≤ 10000 := by simp only [szV] at hs; omega
          simp only [szVs] at hmr hsr
          have up := szV_pos u
          have lst := szVs_len st
          have lr := szVs_len r
          have c3 : (dOr (dB (dBin vNe (dLen (dVar 5)) (dBin vAdd (dVar 3) (dC (.int 1))))) (dOr (dNot (dTru (dIsi .str (dBin vIx (dVar 5) (dC (.int 0)))))) (dB (dBin vNotIn (dBin vIx (dVar 5) (dC (.int 0))) (dVar 4))))) [v0, v1, some (.ref h.length), some (.int n), some (.tup (ls.map .str)), some (.tup (u :: r))] (h ++ [.lst st]) = .ok (!hd n ls (u :: r)) (h ++ [.lst st]) := by
            simp only [e_or, e_b, e_bin, e_len, dVar, List.getElem?_cons_succ, List.getElem?_cons_zero, Res.bind_ok, vLen_tup, e_c, vAdd_int, vNe_int, resB_bl, e_not, e_tru, e_isi, t0]
            cases u with
            | str s =>
              have os : okV (.str s) = true := by simpa only [wfV] using wl.1
              by_cases hr : (r.length : Int) = n
              · have : ((Val.str s :: r).length : Int) = n + 1 := by simp; omega
                simp [this, hr, hd, tyOf, isiB, vNotIn_tupTxt os kk.tx]
              · have : ¬ ((Val.str s :: r).length : Int) = n + 1 := by simp; omega
                simp only [this, decide_false, Bool.not_false, if_true, hd, hr, Bool.false_and]
            | tup l' =>
              by_cases hr : (r.length : Int) = n
              · have : ((Val.tup l' :: r).length : Int) = n + 1 := by simp; omega
                simp [this, hr, hd, tyOf, isiB]
              · have : ¬ ((Val.tup l' :: r).length : Int) = n + 1 := by simp; omega
                simp only [this, decide_false, Bool.not_false, if_true, hd]
            | _ => simp [wfV] at wl
          have hv : isV n ls (.tup (u :: r)) = (hd n ls (u :: r) && isVs n ls r) := by simp only [isV, isT]
          rw [hv]
          cases hh : hd n ls (u :: r) with
          | false =>
            rw [if_t (h1 := h ++ [.lst st]) (by rw [c3, hh]; rfl)]
            exact ⟨[.lst st], by simp⟩
          | true =>
            rw [if_f (h1 := h ++ [.lst st]) (by rw [c3, hh]; rfl)]
            have hcut : vCut (.tup (u :: r)) (some 1) none (h ++ [.lst st]) = .ok (.tup r) (h ++ [.lst st]) := by
              have := cut_drop (u :: r) 1
              simp only [vCut]
              rw [show (some (1 : Int)) = some ((1 : Nat) : Int) from rfl, this]
              rfl
            have e3 : dMeth1 isLst (fun x v h => if (lstOf h v).isSome then vExtend x v h else .fail) (dVar 2) (dFn vList (dCut (dVar 5) (oSome (dC (.int 1))) oNone)) [v0, v1, some (.ref h.length), some (.int n), some (.tup (ls.map .str)), some (.tup (u :: r))] (h ++ [.lst st]) = .ok .non (h ++ [.lst (st ++ r)]) := by
              simp only [e_meth1, dVar, List.getElem?_cons_succ, List.getElem?_cons_zero, Res.bind_ok, isLst_ref (h1at (h := h)), if_true, e_fn, e_cut, e_osome, e_c, e_onone, hcut, vList, seqOf, lstOf, Option.isSome_some]
              rw [extend_ref (h1at (h := h)) (by omega), h1set]
            rw [expr_eq e3]
            simp only [e_next, SRes.turn_nx, Bool.true_and]
            have := ih (st ++ r) (some (.tup (u :: r))) (by rw [szVs_app]; omega) (by rw [szVs_app]; omega) (by rw [wfVs_app, wf.1, wl.2]; rfl)
            rw [isVs_app] at this
            exact this
      | _ => simp [wfV] at wf
theorem is_shape_a {n : Int} {ls : List Tx} (kk : KOk n ls) {k : Nat} {v : Val} {h : Hv} (o : wfV v = true) (hs : szV v ≤ 1000) : lev D (k + 2) 1 [kv n ls, v] h = .ok (.bl (isV n ls v)) h := by
  show tidy (runDef 6 (b_is_shape (lev D (k + 1))) [kv n ls, v] h) h = _
  have e1 : dCall (lev D (k + 1) 0) (dCons (dVar 0) dNil) [some (kv n ls), some v, none, none, none, none] h = .ok .non h := by
    simp [dVar, kind_a kk]
  have st : b_is_shape (lev D (k + 1)) [some (kv n ls), some v, none, none, none, none] h = iLoop [some (kv n ls), some v, some (.ref h.length), some (.int n), some (.tup (ls.map .str)), none] (h ++ [.lst [v]]) := by
    unfold b_is_shape
    rw [expr_eq e1]
    rw [asg_eq (v := kv n ls) (h1 := h) (by simp [dVar]) (l1 := [some (kv n ls), some v, none, some (.int n), some (.tup (ls.map .str)), none]) rfl]
    rw [asg_eq (v := .ref h.length) (h1 := h ++ [.lst [v]]) (by simp [mkRef, lineN, dVar]) (l1 := [some (kv n ls), some v, some (.ref h.length), some (.int n), some (.tup (ls.map .str)), none]) rfl]
    rfl
  obtain ⟨g, e⟩ := is_loop kk (h := h) (v0 := some (kv n ls)) (v1 := some v) (szVs [v]) [v] none (Nat.le_refl _) (by simp only [szVs]; omega) (by simp only [wfVs, o]; rfl)
  have : isVs n ls [v] = isV n ls v := by simp only [isVs, Bool.and_true]
  rw [this] at e
  exact tidy_okE (run_rt (st.trans e)) rfl
end L01
set_option Elab.async false
set_option linter.all false
set_option maxRecDepth 100000
set_option maxHeartbeats 1000000
set_option autoImplicit false
namespace L01
open GH PySem
def isE : Val → Bool
  | .tup [] => true
  | _ => false
theorem eq_niv {v : Val} {h : Hv} (o : wfV v = true) : vEq v (.tup []) h = .ok (.bl (isE v)) h := by
  have ok := wf_ok v o
  cases v with
  | str s =>
    simp only [vEq, thaw, eqOk, ok, okV, okVs, dpV, dpVs, Bool.and_true]
    simp [veq, pd, pds, PyData.eqv, isE]
  | tup l =>
    cases l with
    | nil => rfl
    | cons a r =>
      simp only [vEq, thaw, eqOk, ok, dpV, dpVs]
      rw [if_pos (by simp [okV, okVs])]
      simp [veq, pd, pds, PyData.eqv, PyData.eqvAll, isE]
  | _ => simp [wfV] at o
theorem notIn_tup {l : List Val} {ls : List Tx} {h : Hv} (o : okVs l = true) (ol : TxOk ls) : vNotIn (.tup l) (.tup (ls.map .str)) h = .ok (.bl true) h := by
  have hs : inSeq (.tup l) (ls.map .str) = false := by
    unfold inSeq
    simp [veq, pd, PyData.eqv]
  have ho : inOk (.tup l) (ls.map .str) = true := by
    simp only [inOk, okV, o, okVs_txt ol, dpVs_txt, Bool.and_self, Bool.true_and, decide_eq_true_eq]
    omega
  simp only [vNotIn, isIn, seqOf, thaw, ho, if_true, hs, Res.bind_ok, Bool.not_false]
theorem isVs_filter (n : Int) (ls : List Tx) : ∀ r : List Val, (r.filter fun v => !isV n ls v).isEmpty = isVs n ls r
  | [] => rfl
  | a :: r => by
    simp only [List.filter_cons, isVs]
    cases h : isV n ls a with
    | true => simpa using isVs_filter n ls r
    | false => simp
theorem okVs_filter {F : Val → Bool} : ∀ {r : List Val}, okVs r = true → okVs (r.filter F) = true
  | [], _ => rfl
  | a :: r, o => by
    simp only [okVs, Bool.and_eq_true] at o
    simp only [List.filter_cons]
    split
    · simp only [okVs, o.1, okVs_filter o.2, Bool.and_self]
    · exact okVs_filter o.2
theorem lis_a {n : Int} {ls : List Tx} (kk : KOk n ls) {h : Hv} : ∀ (m : Nat) {k : Nat} {v : Val}, szV v ≤ m → m ≤ 10000 → wfV v = true → lev D (k + m + 1) 24 [kv n ls, v] h = .ok (.bl (isV n ls v)) h := by
  intro m
  induction m with
  | zero => intro k v hm; have := szV_pos v; omega
  | succ m ih =>
    intro k v hm hM o
    refine eq_of ?_
    show ok (runDef 3 (b__law_is (lev D (k + m + 1))) [kv n ls, v] h) _
    rw [ok_run]
    refine if_ (c := isE v) (h := h) (by simp [dVar, mkT_ok, eq_niv o]) (fun z => ?_) (fun z => ?_)
    · have : v = .tup [] := by
        unfold isE at z
        split at z
        · rfl
        · cases z
      subst this
      exact ret_ (by simp [isV, hd, isT])
    have hne : v ≠ .tup [] := by rintro rfl; cases z
    cases v with
    | str s =>
      refine if_ (c := true) (h := h) (by simp [dVar, tyOf, isiB]) (fun _ => ret_ (by simp [isV])) (fun z => by cases z)
    | tup l =>
      cases l with
      | nil => exact absurd rfl hne
      | cons u r =>
        have wl : wfV u = true ∧ wfVs r = true := by simpa only [wfV, wfVs, Bool.and_eq_true] using o
        have up := szV_pos u
        have hm' : szV u + szVs r + 1 ≤ m + 1 := by simpa only [szV, szVs] using hm
        have lr := szVs_len r
        have c3 : (dOr (dNot (dTru (dIsi .tuple (dVar 1)))) (dOr (dB (dBin vNe (dLen (dVar 1)) (dBin vAdd (dBin vIx (dVar 0) (dC (.int 0))) (dC (.int 1))))) (dB (dBin vNotIn (dBin vIx (dVar 1) (dC (.int 0))) (dBin vIx (dVar 0) (dC (.int 1))))))) [some (kv n ls), some (.tup (u :: r)), none] h = .ok (!hd n ls (u :: r)) h := by
          simp only [e_or, e_b, e_bin, e_len, dVar, List.getElem?_cons_succ, List.getElem?_cons_zero, Res.bind_ok, vLen_tup, e_c, vAdd_int, vNe_int, resB_bl, e_not, e_tru, e_isi, t0, t1, tyOf, isiB, decide_true, Bool.true_or, vTru_bl, Bool.not_true, Bool.false_eq_true, if_false]
          cases u with
          | str s =>
            have os : okV (.str s) = true := by simpa only [wfV] using wl.1
            by_cases hr : (r.length : Int) = n
            · have : ((Val.str s :: r).length : Int) = n + 1 := by simp; omega
              simp [this, hr, hd, vNotIn_tupTxt os kk.tx]
            · have : ¬ ((Val.str s :: r).length : Int) = n + 1 := by simp; omega
              simp only [this, decide_false, Bool.not_false, if_true, hd, hr, Bool.false_and]
          | tup l' =>
            have ol : okVs l' = true := by simpa only [okV] using wf_ok _ wl.1
            by_cases hr : (r.length : Int) = n
            · have : ((Val.tup l' :: r).length : Int) = n + 1 := by simp; omega
              simp [this, hr, hd, notIn_tup ol kk.tx]
            · have : ¬ ((Val.tup l' :: r).length : Int) = n + 1 := by simp; omega
              simp only [this, decide_false, Bool.not_false, if_true, hd]
          | _ => simp [wfV] at wl
        have hv : isV n ls (.tup (u :: r)) = (hd n ls (u :: r) && isVs n ls r) := by simp only [isV, isT]
        rw [hv]
        refine if_ (c := !hd n ls (u :: r)) (h := h) c3 (fun z => ?_) (fun z => ?_)
        · have : hd n ls (u :: r) = false := by simpa using z
          exact ret_ (by simp [this])
        have hh : hd n ls (u :: r) = true := by simpa using z
        rw [hh]
        refine ret_ (l := [some (kv n ls), some (.tup (u :: r)), none]) ?_
        have hcut : vCut (.tup (u :: r)) (some 1) none h = .ok (.tup r) h := by
          have := cut_drop (u :: r) 1
          simp only [vCut]
          rw [show (some (1 : Int)) = some ((1 : Nat) : Int) from rfl, this]
          rfl
        have lc := lcL_filL (fun v : Val => v) (fun v => !isV n ls v) (fun v => v) (t := gName 2) (c := dNot (dTru (dCall (lev D (k + m + 1) 24) (dCons (dVar 0) (dCons (dVar 2) dNil))))) (e := dVar 2) (s := (r, none)) (l := wipeL [some (kv n ls), some (.tup (u :: r)), none] [2]) (h := h) (srcOk_none _ _) r []
          (fun p hp => ⟨_, rfl, by
            have hpz := szVs_mem hp
            have := ih (k := k) (v := p) (by omega) (by omega) (wfVs_mem wl.2 hp)
            simp [wipeL, dVar, this], fun _ => by simp [wipeL, dVar]⟩)
        simp only [List.map_id', List.nil_append] at lc
        simp only [e_bin, dLc, e_iseq, e_cut, dVar, List.getElem?_cons_succ, List.getElem?_cons_zero, Res.bind_ok, e_osome, e_c, e_onone, hcut, vIter_tup]
        rw [lc]
        simp only [frozen, Res.bind_ok, e_lst, e_nil]
        rw [mkL_ok (by simp)]
        simp only [Res.bind_ok]
        rw [(vEq_lnil _ (okVs_filter (wfs_ok r wl.2)) h).1, isVs_filter]
        simp
    | _ => simp [wfV] at o
/-! kinds that are none -/
abbrev IK : Tx := [73, 110, 118, 97, 108, 105, 100, 75, 105, 110, 100]
noncomputable def kTest : DenG Bool := (dOr (dB (dBin vNotIn (dVar 1) (dTup (dCons (dC (.int 1)) (dCons (dC (.int 2)) dNil))))) (dOr (dNot (dB (dChain vLe vLe (dC (.int 1)) (dLen (dVar 2)) (dC (.int 3))))) (dB (dBin vNe (dFn vList (dVar 2)) (dFn vSortSet (dVar 2))))))
noncomputable def kTest2 : DenG Bool := (dNot (dTru (dFn vAll (dLc frozen [3] (iSeq (dVar 2)) (gName 3) dYes (dAndV (dBin vEq (dLen (dVar 3)) (dC (.int 1))) (dBin vIn (dVar 3) (dC (.str [97, 98, 99, 100, 101, 102, 103, 104, 105, 106, 107, 108, 109, 110, 111, 112, 113, 114, 115, 116, 117, 118, 119, 120, 121, 122]))))))))
theorem kind_x {n : Int} {ls : List Tx} {k : Nat} {h : Hv} (e : kTest [some (kv n ls), some (.int n), some (.tup (ls.map .str)), none] h = .ok true h ∨ (kTest [some (kv n ls), some (.int n), some (.tup (ls.map .str)), none] h = .ok false h ∧ kTest2 [some (kv n ls), some (.int n), some (.tup (ls.map .str)), none] h = .ok true h)) : lev D (k + 1) 0 [kv n ls] h = .exc ⟨IK, []⟩ h := by
  show runDef 4 (b_check_kind (lev D k)) [kv n ls] h = _
  have st : b_check_kind (lev D k) [some (kv n ls), none, none, none] h = .exc ⟨IK, []⟩ [some (kv n ls), some (.int n), some (.tup (ls.map .str)), none] h := by
    unfold b_check_kind
    rw [asg_eq (v := kv n ls) (h1 := h) (by simp [dVar]) (l1 := [some (kv n ls), some (.int n), some (.tup (ls.map .str)), none]) rfl]
    show (sSeq (sIf kTest (sSeq (sRaise IK) sNext) sNext) (sSeq (sIf kTest2 (sSeq (sRaise IK) sNext) sNext) sNext)) [some (kv n ls), some (.int n), some (.tup (ls.map .str)), none] h = _
    rcases e with e | ⟨e, e2⟩
    · rw [raise_if e]
      rfl
    · rw [raise_if e, if_neg (by simp), raise_if e2]
      rfl
  exact run_exc st
theorem kr_ok {n : Int} {ls : List Tx} {k : Nat} {h : Hv} {b : Bool} (e : lev D (k + 1) 0 [kv n ls] h = if b then .ok .non h else .exc ⟨IK, []⟩ h) : lev D (k + 2) 25 [kv n ls] h = .ok (.bl b) h := by
  show runDef 1 (b__law_kind_right (lev D (k + 1))) [kv n ls] h = _
  have e1 : dCall (lev D (k + 1) 0) (dCons (dVar 0) dNil) [some (kv n ls)] h = lev D (k + 1) 0 [kv n ls] h := by simp [dVar]
  rw [e] at e1
  have run : b__law_kind_right (lev D (k + 1)) [some (kv n ls)] h = .rt (.bl b) h := by
    unfold b__law_kind_right
    rw [e_seq]
    cases b with
    | true =>
      rw [if_pos rfl] at e1
      simp only [sTry, e_seq, e_expr, e1]
      rfl
    | false =>
      rw [if_neg (by simp)] at e1
      simp only [sTry, expr_ex e1]
      rfl
  exact run_rt run
end L01
set_option Elab.async false
set_option linter.all false
set_option maxRecDepth 100000
set_option maxHeartbeats 1000000
set_option autoImplicit false
namespace L01
open GH PySem
theorem Sh.isVal {n : Int} {ls : List Tx} : ∀ {s : Sh}, s.ok n ls → isV n ls s.val = true
  | .nil, _ => by simp [Sh.val, isV, hd, isT]
  | .one l c, g => by
    have := Sh.isVal g.2.2
    simp only [Sh.val, isV, hd, isT, isVs, this, Bool.and_true, Bool.and_eq_true, decide_eq_true_eq]
    exact ⟨by simp [g.1], g.2.1⟩
  | .two l a b, g => by
    have h1 := Sh.isVal g.2.2.1
    have h2 := Sh.isVal g.2.2.2
    simp only [Sh.val, isV, hd, isT, isVs, h1, h2, Bool.and_true, Bool.and_eq_true, decide_eq_true_eq]
    exact ⟨by simp [g.1], g.2.1⟩
theorem Sh.wf {n : Int} {ls : List Tx} (kk : KOk n ls) : ∀ {s : Sh}, s.ok n ls → wfV s.val = true
  | .nil, _ => rfl
  | .one l c, g => by simp only [Sh.val, wfV, wfVs, kk.tx l g.2.1, Sh.wf kk g.2.2, Bool.and_self]
  | .two l a b, g => by simp only [Sh.val, wfV, wfVs, kk.tx l g.2.1, Sh.wf kk g.2.2.1, Sh.wf kk g.2.2.2, Bool.and_self]
theorem Sh.sz : ∀ s : Sh, szV s.val ≤ 3 * s.size + 1
  | .nil => by simp [Sh.val, szV, szVs, Sh.size]
  | .one l c => by have := Sh.sz c; simp only [Sh.val, szV, szVs, Sh.size]; omega
  | .two l a b => by have := Sh.sz a; have := Sh.sz b; simp only [Sh.val, szV, szVs, Sh.size]; omega
theorem Pl_str (d : Nat) (t : Tx) : Pl d (.str t) := by cases d <;> exact trivial
theorem Pl_int (d : Nat) (t : Int) : Pl d (.int t) := by cases d <;> exact trivial
theorem Pl_bl (d : Nat) (t : Bool) : Pl d (.bl t) := by cases d <;> exact trivial
theorem Pl_sh : ∀ (s : Sh) (d : Nat), s.size + 1 ≤ d → Pl d s.val
  | s, 0, h => by omega
  | .nil, d + 1, _ => ⟨by simp, fun v hv => by cases hv⟩
  | .one l c, d + 1, h => ⟨by simp, fun v hv => by
      simp only [Sh.size] at h
      simp only [List.mem_cons, List.not_mem_nil, or_false] at hv
      rcases hv with rfl | rfl
      · exact Pl_str _ _
      · exact Pl_sh c d (by omega)⟩
  | .two l a b, d + 1, h => ⟨by simp, fun v hv => by
      simp only [Sh.size] at h
      simp only [List.mem_cons, List.not_mem_nil, or_false] at hv
      rcases hv with rfl | rfl | rfl
      · exact Pl_str _ _
      · exact Pl_sh a d (by omega)
      · exact Pl_sh b d (by omega)⟩
theorem Pl_pv (p : List Int) (h : p.length ≤ 1000) (d : Nat) : Pl (d + 1) (pv p) := ⟨by simp; omega, fun v hv => by
  obtain ⟨i, _, rfl⟩ := List.mem_map.mp hv
  exact Pl_int _ _⟩
theorem Pl_pvs (L : List (List Int)) (hl : L.length ≤ 1000) (h : ∀ p ∈ L, p.length ≤ 1000) (d : Nat) : Pl (d + 2) (.lst (L.map pv)) := ⟨by simp; omega, fun v hv => by
  obtain ⟨p, hp, rfl⟩ := List.mem_map.mp hv
  exact Pl_pv p (h p hp) d⟩
theorem same_a {d k : Nat} {v : Val} {h : Hv} (p : Pl d v) : lev D (k + 2 * d + 2) 13 [v, v] h = .ok (.bl true) h := eq_of (same_refl d v p ⟨rfl, rfl⟩)
theorem put_size : ∀ (q : List Int) (s x : Sh), (put s q x).size ≤ s.size + x.size
  | [], s, x => by simp only [put]; omega
  | w :: r, s, x => by
    simp only [put]
    cases s with
    | nil => simp [child, Sh.size]
    | one l a =>
      simp only [child]
      by_cases h0 : w = 0
      · have := put_size r a x
        simp only [h0, if_true, rep, Sh.size]; omega
      · simp only [h0, if_false, Sh.size]; omega
    | two l a b =>
      simp only [child]
      by_cases h0 : w = 0
      · have := put_size r a x
        simp only [h0, if_true, rep, Sh.size]; omega
      · by_cases h1 : w = 1
        · have := put_size r b x
          subst h1
          simp [rep, Sh.size]; omega
        · simp only [h0, h1, if_false, Sh.size]; omega
theorem go_size : ∀ (q : List Int) (s c : Sh), go s q = some c → c.size ≤ s.size ∧ q.length + c.size ≤ s.size + q.length ∧ (c.isNil = false → q.length < s.size) ∧ (∀ w ∈ q, w = 0 ∨ w = 1) ∧ q.length ≤ s.size
  | [], s, c, e => by
    rw [go_nil] at e
    cases e
    refine ⟨by omega, by omega, fun h => ?_, by simp, by simp⟩
    cases s <;> simp [Sh.isNil, Sh.size] at h ⊢
  | w :: r, s, c, e => by
    rw [go_cons] at e
    cases s with
    | nil => cases e
    | one l a =>
      simp only [child] at e
      by_cases h0 : w = 0
      · rw [if_pos h0] at e
        obtain ⟨a1, a2, a3, a4, a5⟩ := go_size r a c e
        simp only [Sh.size, List.length_cons]
        refine ⟨by omega, by omega, fun h => by have := a3 h; omega, fun x hx => ?_, by omega⟩
        rcases List.mem_cons.mp hx with rfl | hx
        · exact .inl h0
        · exact a4 x hx
      · rw [if_neg h0] at e; cases e
    | two l a b =>
      simp only [child] at e
      by_cases h0 : w = 0
      · rw [if_pos h0] at e
        obtain ⟨a1, a2, a3, a4, a5⟩ := go_size r a c e
        simp only [Sh.size, List.length_cons]
        refine ⟨by omega, by omega, fun h => by have := a3 h; omega, fun x hx => ?_, by omega⟩
        rcases List.mem_cons.mp hx with rfl | hx
        · exact .inl h0
        · exact a4 x hx
      · rw [if_neg h0] at e
        by_cases h1 : w = 1
        · rw [if_pos h1] at e
          obtain ⟨a1, a2, a3, a4, a5⟩ := go_size r b c e
          simp only [Sh.size, List.length_cons]
          refine ⟨by omega, by omega, fun h => by have := a3 h; omega, fun x hx => ?_, by omega⟩
          rcases List.mem_cons.mp hx with rfl | hx
          · exact .inr h1
          · exact a4 x hx
        · rw [if_neg h1] at e; cases e
theorem listed_path {s : Sh} {q : List Int} (h : q ∈ listed s) : q.length < s.size ∧ ∀ w ∈ q, w = 0 ∨ w = 1 := by
  obtain ⟨c, e, z⟩ := mem_listed.mp h
  obtain ⟨_, _, a3, a4, _⟩ := go_size q s c e
  exact ⟨a3 z, a4⟩
theorem txt_len1 {ls : List Tx} (kk : KOk 1 ls) : ∀ {s : Sh}, s.ok 1 ls → s.txt.length = s.size + 1
  | .nil, _ => rfl
  | .one l c, g => by
    obtain ⟨x, rfl, _⟩ := kk.one l g.2.1
    have := txt_len1 kk g.2.2
    simp [Sh.txt, Sh.size, this]
  | .two l a b, g => by have := g.1; omega
theorem txt_len2 {ls : List Tx} (kk : KOk 2 ls) : ∀ {s : Sh}, s.ok 2 ls → s.txt.length = 5 * s.size + 1
  | .nil, _ => rfl
  | .one l c, g => by have := g.1; omega
  | .two l a b, g => by
    obtain ⟨x, rfl, _⟩ := kk.one l g.2.1
    have h1 := txt_len2 kk g.2.2.1
    have h2 := txt_len2 kk g.2.2.2
    simp [Sh.txt, Sh.size, h1, h2]
    omega
theorem txt_size {n : Int} {ls : List Tx} (kk : KOk n ls) {s d : Sh} (gs : s.ok n ls) (gd : d.ok n ls) (h : d.txt.length ≤ s.txt.length + 1) : d.size ≤ s.size + 1 := by
  rcases kk.n with rfl | rfl
  · rw [txt_len1 kk gs, txt_len1 kk gd] at h; omega
  · rw [txt_len2 kk gs, txt_len2 kk gd] at h; omega
theorem go_app : ∀ (p : List Int) (s : Sh) (w : Int), go s (p ++ [w]) = (go s p).bind fun c => child c w
  | [], s, w => by
    rw [List.nil_append, go_cons, go_nil]
    cases h : child s w with
    | none => simp [h]
    | some c => simp [h, go_nil]
  | v :: p, s, w => by
    rw [List.cons_append, go_cons, go_cons]
    cases h : child s v with
    | none => rfl
    | some c => simp only [Option.bind_some, go_app p c w]
theorem go_ok {n : Int} {ls : List Tx} : ∀ (q : List Int) (s c : Sh), s.ok n ls → go s q = some c → c.ok n ls
  | [], s, c, g, e => by rw [go_nil] at e; cases e; exact g
  | w :: r, s, c, g, e => by
    rw [go_cons] at e
    cases s with
    | nil => cases e
    | one l a =>
      simp only [child] at e
      by_cases h0 : w = 0
      · rw [if_pos h0] at e; exact go_ok r a c g.2.2 e
      · rw [if_neg h0] at e; cases e
    | two l a b =>
      simp only [child] at e
      by_cases h0 : w = 0
      · rw [if_pos h0] at e; exact go_ok r a c g.2.2.1 e
      · rw [if_neg h0] at e
        by_cases h1 : w = 1
        · rw [if_pos h1] at e; exact go_ok r b c g.2.2.2 e
        · rw [if_neg h1] at e; cases e
/-- whether one more step leads to a place -/
theorem reach_iff {n : Int} {ls : List Tx} {s : Sh} (g : s.ok n ls) (p : List Int) (w : Int) (hw : w = 0 ∨ w = 1) : (decide (p ∈ listed s) && decide (w < n)) = (go s (p ++ [w])).isSome := by
  rw [go_app]
  by_cases hp : p ∈ listed s
  · obtain ⟨c, e, z⟩ := mem_listed.mp hp
    have gc := go_ok p s c g e
    rw [e]
    simp only [hp, decide_true, Bool.true_and, Option.bind_some]
    cases c with
    | nil => cases z
    | one l a =>
      have := gc.1
      subst this
      rcases hw with rfl | rfl <;> simp [child]
    | two l a b =>
      have := gc.1
      subst this
      rcases hw with rfl | rfl <;> simp [child]
  · simp only [hp, decide_false, Bool.false_and]
    cases e : go s p with
    | none => rfl
    | some c =>
      cases c with
      | nil => rfl
      | one l a => exact absurd (mem_listed.mpr ⟨_, e, rfl⟩) hp
      | two l a b => exact absurd (mem_listed.mpr ⟨_, e, rfl⟩) hp
theorem prt_none {s : Sh} {q : List Int} : q ∉ listed s → prt s q = none := fun h => by
  unfold prt
  cases e : go s q with
  | none => rfl
  | some c =>
    cases hn : c.isNil with
    | true => simp [hn]
    | false => exact absurd (mem_listed.mpr ⟨c, e, hn⟩) h
theorem prt_some {s : Sh} {q : List Int} : q ∈ listed s → ∃ c, go s q = some c ∧ prt s q = some c := fun h => by
  obtain ⟨c, e, z⟩ := mem_listed.mp h
  exact ⟨c, e, by simp [prt, e, z]⟩
/-! a text bent -/
theorem cut_str_to {t : Tx} {j : Int} {h : Hv} (h0 : 0 ≤ j) (ht : t.length ≤ 100000) : vCut (.str t) none (some j) h = .ok (.str (t.take j.toNat)) h := by
  obtain ⟨m, rfl⟩ : ∃ m : Nat, j = (m : Int) := ⟨j.toNat, by omega⟩
  simp only [vCut]
  rw [if_pos (show t.length ≤ lineN by unfold lineN; omega), cut_take]
  rfl
theorem cut_str_from {t : Tx} {j : Int} {h : Hv} (h0 : 0 ≤ j) (ht : t.length ≤ 100000) : vCut (.str t) (some j) none h = .ok (.str (t.drop j.toNat)) h := by
  obtain ⟨m, rfl⟩ : ∃ m : Nat, j = (m : Int) := ⟨j.toNat, by omega⟩
  simp only [vCut]
  rw [if_pos (show t.length ≤ lineN by unfold lineN; omega), cut_drop]
  rfl
theorem okS_take {t : Tx} (o : okV (.str t) = true) (m : Nat) : okV (.str (t.take m)) = true := by
  simp only [okV] at o ⊢
  exact List.all_eq_true.mpr fun x hx => List.all_eq_true.mp o x (List.mem_of_mem_take hx)
theorem okS_drop {t : Tx} (o : okV (.str t) = true) (m : Nat) : okV (.str (t.drop m)) = true := by
  simp only [okV] at o ⊢
  exact List.all_eq_true.mpr fun x hx => List.all_eq_true.mp o x (List.mem_of_mem_drop hx)
theorem bent_sp {k : Nat} {t : Tx} {o : Ob} {g : Hv} {P : Val → Hv → Prop} (ot : okV (.str t) = true) (ht : t.length ≤ 1000) (ho : TapeOb o)
    (z : ∀ (t' : Tx) o', okV (.str t') = true → t'.length ≤ t.length + 1 → TapeOb o' → P (.str t') (o' :: g)) : ok (lev D (k + 2) 23 [.ref 0, .str t] (o :: g)) P := by
  show ok (runDef 4 (b__law_bent (lev D (k + 1))) [.ref 0, .str t] (o :: g)) P
  rw [ok_run]
  have hlen : ∀ h, vLen (.str t) h = .ok (.int t.length) h := fun h => by
    simp only [vLen]
    rw [if_pos (show t.length ≤ lineN by unfold lineN; omega)]
  refine asgo_ (fun v h => ∃ (j : Int) (o' : Ob), 0 ≤ j ∧ j ≤ t.length ∧ TapeOb o' ∧ v = .int j ∧ h = o' :: g) (fun Q' hQ => ?_) ?_
  · simp [dVar, hlen]
    exact take_l ho (by omega) (by omega) fun r o' r0 r1 ho' => hQ _ _ ⟨r, o', r0, by omega, ho', rfl, rfl⟩
  rintro v h ⟨j, o1, j0, j1, ho1, rfl, rfl⟩
  refine asgo_ (fun v h => ∃ (w : Tx) (o' : Ob), okV (.str w) = true ∧ w.length ≤ 1 ∧ TapeOb o' ∧ v = .str w ∧ h = o' :: g) (fun Q' hQ => ?_) ?_
  · have hb : ∀ h, dLst (dCons (dC (.str [])) (dCons (dC (.str [97])) (dCons (dC (.str [46])) (dCons (dC (.str [40])) (dCons (dC (.str [44])) (dCons (dC (.str [41])) (dCons (dC (.str [98])) (dCons (dC (.str [113])) dNil)))))))) [some (.ref 0), some (.str t), some (.int j), none] h = .ok (.lst (([[], [97], [46], [40], [44], [41], [98], [113]] : List Tx).map .str)) h := fun h => by
      simp only [e_lst, e_cons, e_c, e_nil, Res.bind_ok]
      rw [mkL_ok (by simp)]
      rfl
    simp only [e_bin, hb, Res.bind_ok, e_call, e_cons, dVar, List.set_cons_succ, List.set_cons_zero, List.getElem?_cons_succ, List.getElem?_cons_zero, e_c, e_nil, ok_bind, List.map_cons, List.map_nil, List.cons_append, List.nil_append, List.length_cons, List.length_nil, List.replicate]
    refine take_l ho1 (by omega) (by omega) fun r o' r0 r1 ho' => ?_
    obtain ⟨v, e1, e2⟩ := nth_of (l := ([[], [97], [46], [40], [44], [41], [98], [113]] : List Tx)) r0 (by simpa using r1)
    have e3 : nth (([[], [97], [46], [40], [44], [41], [98], [113]] : List Tx).map Val.str) r = some (.str v) := by
      unfold nth at e1 ⊢
      rw [if_pos r0] at e1 ⊢
      rw [List.getElem?_map, e1]
      rfl
    rw [show [Val.str [], Val.str [97], Val.str [46], Val.str [40], Val.str [44], Val.str [41], Val.str [98], Val.str [113]] = ([[], [97], [46], [40], [44], [41], [98], [113]] : List Tx).map .str from rfl, vIx_lst e3]
    exact hQ _ _ ⟨v, o', (by decide +kernel : ∀ v ∈ ([[], [97], [46], [40], [44], [41], [98], [113]] : List Tx), okV (.str v) = true) v e2, (by decide +kernel : ∀ v ∈ ([[], [97], [46], [40], [44], [41], [98], [113]] : List Tx), v.length ≤ 1) v e2, ho', rfl, rfl⟩
  rintro v h ⟨w, o2, ow, hw, ho2, rfl, rfl⟩
  refine ret_ (l := [some (.ref 0), some (.str t), some (.int j), some (.str w)]) ?_
  simp only [e_bin, e_cut, dVar, List.getElem?_cons_succ, List.getElem?_cons_zero, Res.bind_ok, e_onone, e_osome, cut_str_to j0 (show t.length ≤ 100000 by omega), add_str (show (t.take j.toNat).length + w.length ≤ 16777216 by simp; omega), ok_bind, e_call, e_cons, e_nil, e_c]
  refine take_l ho2 (by omega) (by omega) fun r o' r0 r1 ho' => ?_
  simp only [vAdd_int, ok_ok]
  rw [cut_str_from (by omega) (by omega)]
  simp only [ok_ok]
  rw [add_str (by simp; omega)]
  refine z _ o' ?_ ?_ ho'
  · rw [okS_app, okS_app, okS_take ot, ow, okS_drop ot]
    rfl
  · simp
    omega
/-! the eight kinds that are none -/
abbrev wrongs : List (Int × List Tx) := [(3, [[97]]), (0, [[97]]), (1, []), (2, [[98], [97]]), (1, [[97], [97]]), (1, [[97, 98]]), (2, [[65]]), (1, [[97], [98], [99], [100]])]
theorem wrong_a {q : Int × List Tx} (hq : q ∈ wrongs) {k : Nat} {h : Hv} : lev D (k + 1) 0 [kv q.1 q.2] h = .exc ⟨IK, []⟩ h := by
  have n1 : ∀ n : Int, n = 1 ∨ n = 2 → vNotIn (.int n) (.tup [.int 1, .int 2]) h = .ok (.bl false) h := by rintro n (rfl | rfl) <;> rfl
  have ss : ∀ (L M : List Tx), L.length < 4000 → M.Nodup → (∀ x, x ∈ M ↔ x ∈ L) → vSortSet (.tup (L.map .str)) h = .ok (.lst ((srt M).map .str)) h := fun L M a b c => vSortSet_txt rfl a b c
  simp only [wrongs, List.mem_cons, List.not_mem_nil, or_false] at hq
  rcases hq with rfl | rfl | rfl | rfl | rfl | rfl | rfl | rfl
  · refine kind_x (.inl ?_)
    have : vNotIn (.int 3) (.tup [.int 1, .int 2]) h = .ok (.bl true) h := rfl
    simp [kTest, dVar, mkT_ok, this]
  · refine kind_x (.inl ?_)
    have : vNotIn (.int 0) (.tup [.int 1, .int 2]) h = .ok (.bl true) h := rfl
    simp [kTest, dVar, mkT_ok, this]
  · refine kind_x (.inl ?_)
    simp [kTest, dVar, mkT_ok, n1]
  · refine kind_x (.inl ?_)
    have s2 : srt [[97], [98]] = [[97], [98]] := srt_id (by decide +kernel)
    have e := ss [[98], [97]] [[97], [98]] (by simp) (by decide) (fun x => by simp [or_comm])
    rw [s2] at e
    simp only [List.map_cons, List.map_nil] at e
    have e2 : vNe (.lst [.str [98], .str [97]]) (.lst [.str [97], .str [98]]) h = .ok (.bl true) h := rfl
    simp [kTest, dVar, mkT_ok, n1, vList, seqOf, e, e2]
  · refine kind_x (.inl ?_)
    have s2 : srt [[97]] = [[97]] := srt_id (by decide +kernel)
    have e := ss [[97], [97]] [[97]] (by simp) (by decide) (fun x => by simp)
    rw [s2] at e
    simp only [List.map_cons, List.map_nil] at e
    have e2 : vNe (.lst [.str [97], .str [97]]) (.lst [.str [97]]) h = .ok (.bl true) h := rfl
    simp [kTest, dVar, mkT_ok, n1, vList, seqOf, e, e2]
  · refine kind_x (.inr ⟨?_, ?_⟩)
    · have s2 : srt [[97, 98]] = [[97, 98]] := srt_id (by decide +kernel)
      have e := ss [[97, 98]] [[97, 98]] (by simp) (by decide) (fun x => by simp)
      rw [s2] at e
      simp only [List.map_cons, List.map_nil] at e
      have e2 : vNe (.lst [.str [97, 98]]) (.lst [.str [97, 98]]) h = .ok (.bl false) h := rfl
      simp [kTest, dVar, mkT_ok, n1, vList, seqOf, e, e2]
    · have hlen : vLen (.str [97, 98]) h = .ok (.int 2) h := rfl
      have z := vAll_bls [false] h
      simp only [List.map_cons, List.map_nil] at z
      simp only [kTest2, e_not, e_tru, e_fn, dLc, e_iseq, dVar, List.getElem?_cons_succ, List.getElem?_cons_zero, Res.bind_ok, vIter_tup, List.map_cons, List.map_nil]
      simp [lcL, wipeL, dVar, hlen, frozen, z]
  · refine kind_x (.inr ⟨?_, ?_⟩)
    · have s2 : srt [[65]] = [[65]] := srt_id (by decide +kernel)
      have e := ss [[65]] [[65]] (by simp) (by decide) (fun x => by simp)
      rw [s2] at e
      simp only [List.map_cons, List.map_nil] at e
      have e2 : vNe (.lst [.str [65]]) (.lst [.str [65]]) h = .ok (.bl false) h := rfl
      simp [kTest, dVar, mkT_ok, n1, vList, seqOf, e, e2]
    · have hlen : vLen (.str [65]) h = .ok (.int 1) h := rfl
      have hin : vIn (.str [65]) (.str [97, 98, 99, 100, 101, 102, 103, 104, 105, 106, 107, 108, 109, 110, 111, 112, 113, 114, 115, 116, 117, 118, 119, 120, 121, 122]) h = .ok (.bl false) h := rfl
      have z := vAll_bls [false] h
      simp only [List.map_cons, List.map_nil] at z
      simp only [kTest2, e_not, e_tru, e_fn, dLc, e_iseq, dVar, List.getElem?_cons_succ, List.getElem?_cons_zero, Res.bind_ok, vIter_tup, List.map_cons, List.map_nil]
      simp [lcL, wipeL, dVar, hlen, hin, frozen, z]
  · refine kind_x (.inl ?_)
    simp [kTest, dVar, mkT_ok, n1]
end L01
set_option Elab.async false
set_option linter.all false
set_option maxRecDepth 100000
set_option maxHeartbeats 1000000
set_option autoImplicit false
namespace L01
open GH PySem
def Sh.lst : Sh → List Val
  | .nil => []
  | .one l c => [.str l, c.val]
  | .two l a b => [.str l, a.val, b.val]
theorem Sh.val_lst (s : Sh) : s.val = .tup s.lst := by cases s <;> rfl
theorem cmp_none {s : Sh} {h : Hv} (o : okV s.val = true) : vEq s.val (.str noneT) h = .ok (.bl false) h ∧ vNe s.val (.str noneT) h = .ok (.bl true) h := by
  have on : okV (.str noneT) = true := by decide +kernel
  have dn : dpV (.str noneT) = 0 := rfl
  rw [s.val_lst] at o ⊢
  constructor
  · simp only [vEq, thaw, eqOk, o, on, dn]
    rw [if_pos (by simp)]
    simp [veq, pd, PyData.eqv]
  · simp only [vNe, thaw, eqOk, o, on, dn]
    rw [if_pos (by simp)]
    simp [veq, pd, PyData.eqv]
theorem cut_last {α : Type} (l : List α) (x : α) : cut (l ++ [x]) none (some (-1)) = l := by
  have e : HT.sIx (l ++ [x]).length (l ++ [x]).length (some (-1)) = l.length := by
    show (if (-1 : Int) < 0 then ((-1 : Int) + ((l ++ [x]).length : Nat)).toNat else min (-1 : Int).toNat (l ++ [x]).length) = _
    rw [if_pos (by omega)]
    simp; omega
  unfold cut
  rw [e, HT.sIx_none]
  simp
theorem ix_lastT (L : List Val) (v : Val) (h : Hv) : vIx (.tup (L ++ [v])) (.int (-1)) h = .ok v h := by
  refine vIx_tup ?_
  unfold nth
  rw [if_neg (by omega), if_pos (by simp; omega)]
  have : ((-1 : Int) + ((L ++ [v]).length : Nat)).toNat = L.length := by simp; omega
  rw [this]
  simp
def B01 (q : List Int) : Prop := ∀ w ∈ q, w = 0 ∨ w = 1
def others (s : Sh) : List Val := [s.val, .tup [s.val], .tup (.str [113] :: s.lst.drop 1), .tup (s.lst ++ [.tup []]), .tup [.str [97], s.val], .tup [.str [97], .str [98], s.val]]
theorem szVs_drop : ∀ (l : List Val), szVs (l.drop 1) ≤ szVs l
  | [] => Nat.le_refl _
  | a :: r => by simp [szVs]
theorem others_ok {n : Int} {ls : List Tx} (kk : KOk n ls) {s : Sh} (g : s.ok n ls) (hs : s.size ≤ 12) : ∀ v ∈ others s, wfV v = true ∧ szV v ≤ 45 := by
  have w := Sh.wf kk g
  have z := Sh.sz s
  have w2 : wfVs s.lst = true := by have := w; rw [s.val_lst] at this; simpa only [wfV] using this
  have z2 : szVs s.lst + 1 ≤ 3 * s.size + 1 := by have := z; rw [s.val_lst] at this; simpa only [szV] using this
  have a1 : okV (.str [97]) = true := by decide +kernel
  have a2 : okV (.str [98]) = true := by decide +kernel
  have a3 : okV (.str [113]) = true := by decide +kernel
  have w3 : wfVs (s.lst.drop 1) = true := by
    cases hl : s.lst with
    | nil => rfl
    | cons a r =>
      rw [hl] at w2
      simp only [wfVs, Bool.and_eq_true] at w2
      exact w2.2
  have z3 := szVs_drop s.lst
  intro v hv
  simp only [others, List.mem_cons, List.not_mem_nil, or_false] at hv
  rcases hv with rfl | rfl | rfl | rfl | rfl | rfl
  · exact ⟨w, by omega⟩
  · exact ⟨by simp only [wfV, wfVs, w, Bool.and_self], by simp only [szV, szVs]; omega⟩
  · exact ⟨by simp only [wfV, wfVs, a3, w3, Bool.and_self], by simp only [szV, szVs]; omega⟩
  · exact ⟨by simp only [wfV, wfVs, wfVs_app, w2, Bool.and_self], by simp only [szV, szVs, szVs_app]; omega⟩
  · exact ⟨by simp only [wfV, wfVs, a1, w, Bool.and_self], by simp only [szV, szVs]; omega⟩
  · exact ⟨by simp only [wfV, wfVs, a1, a2, w, Bool.and_self], by simp only [szV, szVs]; omega⟩
theorem others_d {s : Sh} {K : Nat} {l : GH.Loc} {h : Hv} (hl : l[3]? = some (some s.val)) : dLst (dCons (dVar 3) (dCons (dTup (dCons (dVar 3) dNil)) (dCons (dBin vAdd (dTup (dCons (dC (.str [113])) dNil)) (dCut (dVar 3) (oSome (dC (.int 1))) oNone)) (dCons (dBin vAdd (dVar 3) (dTup (dCons (dTup dNil) dNil))) (dCons (dTup (dCons (dC (.str [97])) (dCons (dVar 3) dNil))) (dCons (dTup (dCons (dC (.str [97])) (dCons (dC (.str [98])) (dCons (dVar 3) dNil)))) dNil)))))) l h = .ok (.lst (others s)) h := by
  have ln : s.lst.length ≤ 3 := by cases s <;> simp [Sh.lst]
  have hc : ∀ h, vCut s.val (some 1) none h = .ok (.tup (s.lst.drop 1)) h := fun h => by
    rw [s.val_lst]
    simp only [vCut]
    rw [show (some (1 : Int)) = some ((1 : Nat) : Int) from rfl, cut_drop]
  have a1 : ∀ h, vAdd (.tup [.str [113]]) (.tup (s.lst.drop 1)) h = .ok (.tup (.str [113] :: s.lst.drop 1)) h := fun h => add_tup (by simp; omega)
  have a2 : ∀ h, vAdd s.val (.tup [.tup []]) h = .ok (.tup (s.lst ++ [.tup []])) h := fun h => by rw [s.val_lst]; exact add_tup (by simp; omega)
  have m0 : ∀ h, mkTup [] h = .ok (.tup []) h := fun h => mkT_ok (by simp)
  have m1 : ∀ a h, mkTup [a] h = .ok (.tup [a]) h := fun a h => mkT_ok (by simp)
  have m2 : ∀ a b h, mkTup [a, b] h = .ok (.tup [a, b]) h := fun a b h => mkT_ok (by simp)
  have m3 : ∀ a b c h, mkTup [a, b, c] h = .ok (.tup [a, b, c]) h := fun a b c h => mkT_ok (by simp)
  simp only [e_lst, e_cons, e_nil, e_tup, e_c, e_bin, e_cut, e_osome, e_onone, dVar, hl, Res.bind_ok, hc, a1, a2, m0, m1, m2, m3]
  exact mkL_ok (by simp)
section
variable {K : Nat} (hK : K = 59) {n : Int} {ls : List Tx} (kk : KOk n ls) {s : Sh} (g : s.ok n ls) (hs : s.size ≤ 14) {h : Hv}
include hK
theorem F_same {d : Nat} {v : Val} (p : Pl d v) (hd : d ≤ 20) : lev D K 13 [v, v] h = .ok (.bl true) h := by
  obtain ⟨k, rfl⟩ : ∃ k, K = k + 2 * d + 2 := ⟨59 - 2 * d - 2, by omega⟩
  exact same_a p
include kk
include g
theorem F_is : lev D K 24 [kv n ls, s.val] h = .ok (.bl (isV n ls s.val)) h ∨ 14 < s.size := by
  by_cases hs : s.size ≤ 14
  · have := Sh.sz s
    subst hK
    exact .inl (lis_a kk 50 (k := 8) (by omega) (by omega) (Sh.wf kk g))
  · exact .inr (by omega)
include hs
theorem F_write : lev D K 7 [s.val] h = .ok (.str s.txt) h := by subst hK; exact write_a kk g (by omega) (k := 58)
theorem F_text : lev D K 18 [s.val] h = .ok (.str s.txt) h := by
  obtain ⟨k, rfl⟩ : ∃ k, K = k + s.size + 1 := ⟨59 - s.size - 1, by omega⟩
  exact text_b kk s g (by omega)
theorem F_size : lev D K 3 [s.val] h = .ok (.int s.size) h := by subst hK; exact size_a (Sh.ok_good kk g) (by omega) (k := 57)
theorem F_paths : lev D K 4 [s.val] h = .ok (.lst ((listed s).map pv)) h := by subst hK; exact paths_a (Sh.ok_good kk g) (by omega) (k := 57)
theorem F_lpaths : lev D K 16 [s.val, .tup []] h = .ok (.lst ((pathsOf s []).map pv)) h := by
  obtain ⟨k, rfl⟩ : ∃ k, K = k + s.size + 1 := ⟨59 - s.size - 1, by omega⟩
  exact lpaths_a (p := []) (Sh.ok_good kk g) (by simp; omega)
end
/-- first part: listed, the texts, the numbers -/
theorem law_1 {ns : Val} {K : Nat} (hK : K = 59) {n : Int} {ls : List Tx} (kk : KOk n ls) {s : Sh} (g : s.ok n ls) (hs : s.size ≤ 12) {h : Hv} {rest : Stm} {P : Post} {x5 x6 x7 x8 x9 x10 x11 x12 x13 : Option Val}
    (z : sok (rest [some ns, some (.ref 0), some (kv n ls), some s.val, some (.lst ((listed s).map pv)), x5, x6, x7, x8, x9, x10, x11, x12, x13] h) P) :
    sok ((sSeq (sAsg (dFn vSorted (dCall (lev D K 16) (dCons (dVar 3) (dCons (dTup dNil) dNil)))) (gName 4))
    (sSeq (sIf (dNot (dTru (dCall (lev D K 13) (dCons (dLst (dCons (dCall (lev D K 7) (dCons (dVar 3) dNil)) (dCons (dCall (lev D K 3) (dCons (dVar 3) dNil)) (dCons (dCall (lev D K 4) (dCons (dVar 3) dNil)) dNil)))) (dCons (dLst (dCons (dCall (lev D K 18) (dCons (dVar 3) dNil)) (dCons (dLen (dVar 4)) (dCons (dVar 4) dNil)))) dNil))))) (sSeq (sRet (dC (.bl false)))
    sNext) sNext)
    (sSeq (sIf (dNot (dTru (dCall (lev D K 13) (dCons (dCall (lev D K 8) (dCons (dVar 2) (dCons (dCall (lev D K 18) (dCons (dVar 3) dNil)) dNil))) (dCons (dVar 3) dNil))))) (sSeq (sRet (dC (.bl false)))
    sNext) sNext)
    rest))) [some ns, some (.ref 0), some (kv n ls), some s.val, none, x5, x6, x7, x8, x9, x10, x11, x12, x13] h) P := by
  have lp := F_lpaths hK kk g (by omega) (h := h)
  have vs := vSorted_pv (po_head s) h
  have m0 : mkTup [] h = .ok (.tup []) h := mkT_ok (by simp)
  refine asg_ (h1 := h) (v := .lst ((listed s).map pv)) ?_ ?_
  · simp only [e_fn, e_call, e_cons, e_tup, e_nil, dVar, List.getElem?_cons_succ, List.getElem?_cons_zero, Res.bind_ok, m0, lp, vs]
  have pl : Pl 3 (.lst [.str s.txt, .int s.size, .lst ((listed s).map pv)]) := ⟨by simp, fun v hv => by
    simp only [List.mem_cons, List.not_mem_nil, or_false] at hv
    rcases hv with rfl | rfl | rfl
    · exact Pl_str _ _
    · exact Pl_int _ _
    · exact Pl_pvs _ (by rw [listed_len]; omega) (fun p hp => by have := (listed_path hp).1; omega) 0⟩
  have e1 := F_same hK pl (by omega) (h := h)
  have m3 : ∀ a b c h, mkLst [a, b, c] h = .ok (.lst [a, b, c]) h := fun a b c h => mkL_ok (by simp)
  refine if_ (c := false) (h := h) ?_ (fun z => by cases z) fun _ => ?_
  · simp only [e_not, e_tru, e_call, e_cons, e_nil, e_lst, e_len, dVar, List.set_cons_succ, List.set_cons_zero, List.getElem?_cons_succ, List.getElem?_cons_zero, Res.bind_ok, F_write hK kk g (show s.size ≤ 14 by omega), F_size hK kk g (show s.size ≤ 14 by omega), F_paths hK kk g (show s.size ≤ 14 by omega), F_text hK kk g (show s.size ≤ 14 by omega), m3, vLen_lst, List.length_map, listed_len, e1, vTru_bl, Bool.not_true]
  have e2 : lev D K 8 [kv n ls, .str s.txt] h = .ok s.val h := by
    have tl := txt_len kk g
    have := read_a kk (t := s.txt) (by omega) (txt_ok kk g) (k := 54) (h := h)
    rw [rd_txt kk g] at this
    subst hK
    exact this
  have e3 := F_same hK (Pl_sh s 15 (by omega)) (by omega) (h := h)
  refine if_ (c := false) (h := h) ?_ (fun z => by cases z) fun _ => ?_
  · simp only [e_not, e_tru, e_call, e_cons, e_nil, dVar, List.set_cons_succ, List.set_cons_zero, List.getElem?_cons_succ, List.getElem?_cons_zero, Res.bind_ok, F_text hK kk g (show s.size ≤ 14 by omega), e2, e3, vTru_bl, Bool.not_true]
  exact z
theorem rdv_len {n : Int} {ls : List Tx} (kk : KOk n ls) {s : Sh} (g : s.ok n ls) (hs : s.size ≤ 12) {t : Tx} (ht : t.length ≤ s.txt.length + 1) {d : Sh} (e : rd n ls t = some d) : d.size ≤ 13 := by
  obtain ⟨a, b⟩ := rd_sound kk e
  have := txt_size kk g a (by rw [b]; exact ht)
  omega
/-- second part: the bent text -/
theorem law_2 {ns : Val} {K : Nat} (hK : K = 59) {n : Int} {ls : List Tx} (kk : KOk n ls) {s : Sh} (g : s.ok n ls) (hs : s.size ≤ 12) {o : Ob} (ho : TapeOb o) {rest : Stm} {P : Post} {x4 x5 x6 x7 x8 x9 x10 x11 x12 x13 : Option Val}
    (z : ∀ o' a b, TapeOb o' → sok (rest [some ns, some (.ref 0), some (kv n ls), some s.val, x4, a, b, x7, x8, x9, x10, x11, x12, x13] [o']) P) :
    sok ((sSeq (sAsg (dCall (lev D K 23) (dCons (dVar 1) (dCons (dCall (lev D K 18) (dCons (dVar 3) dNil)) dNil))) (gName 5))
    (sSeq (sAsg (dCall (lev D K 19) (dCons (dVar 2) (dCons (dVar 5) dNil))) (gName 6))
    (sSeq (sIf (dAnd (dB (dBin vNe (dVar 6) (dC (.str [110, 111, 110, 101])))) (dOr (dNot (dTru (dCall (lev D K 24) (dCons (dVar 2) (dCons (dVar 6) dNil))))) (dB (dBin vNe (dCall (lev D K 18) (dCons (dVar 6) dNil)) (dVar 5))))) (sSeq (sRet (dC (.bl false)))
    sNext) sNext)
    (sSeq (sIf (dAnd (dB (dBin vEq (dVar 6) (dC (.str [110, 111, 110, 101])))) (dB (dBin vEq (dVar 5) (dCall (lev D K 18) (dCons (dVar 3) dNil))))) (sSeq (sRet (dC (.bl false)))
    sNext) sNext)
    rest)))) [some ns, some (.ref 0), some (kv n ls), some s.val, x4, x5, x6, x7, x8, x9, x10, x11, x12, x13] [o]) P := by
  have tl := txt_len kk g
  refine asgo_ (fun v h => ∃ (t : Tx) (o' : Ob), okV (.str t) = true ∧ t.length ≤ s.txt.length + 1 ∧ TapeOb o' ∧ v = .str t ∧ h = [o']) (fun Q' hQ => ?_) ?_
  · simp only [e_call, e_cons, e_nil, dVar, List.getElem?_cons_succ, List.getElem?_cons_zero, Res.bind_ok, F_text hK kk g (show s.size ≤ 14 by omega)]
    subst hK
    exact bent_sp (k := 57) (txt_ok kk g) (by omega) ho fun t' o' ot hl ho' => hQ _ _ ⟨t', o', ot, hl, ho', rfl, rfl⟩
  rintro v h ⟨t, o', ot, hl, ho', rfl, rfl⟩
  simp only [List.set_cons_succ, List.set_cons_zero]
  have e1 : lev D K 19 [kv n ls, .str t] [o'] = .ok (rdv n ls t) [o'] := by subst hK; exact law_read_a kk (by omega) ot (k := 53)
  refine asg_ (h1 := [o']) (v := rdv n ls t) (by simp only [e_call, e_cons, e_nil, dVar, List.getElem?_cons_succ, List.getElem?_cons_zero, Res.bind_ok, e1]) ?_
  simp only [List.set_cons_succ, List.set_cons_zero]
  cases hr : rd n ls t with
  | none =>
    have hv : rdv n ls t = .str noneT := by simp [rdv, hr]
    rw [hv]
    have hne : t ≠ s.txt := by
      rintro rfl
      rw [rd_txt kk g] at hr
      cases hr
    refine if_ (c := false) (h := [o']) ?_ (fun z => by cases z) fun _ => ?_
    · simp [dVar]
    refine if_ (c := false) (h := [o']) ?_ (fun z => by cases z) fun _ => ?_
    · simp only [e_and, e_b, e_bin, dVar, e_c, List.getElem?_cons_succ, List.getElem?_cons_zero, Res.bind_ok, vEq_str, resB_bl, e_call, e_cons, e_nil, F_text hK kk g (show s.size ≤ 14 by omega), hne, decide_false]
      simp
    exact z _ _ _ ho'
  | some d =>
    have hv : rdv n ls t = d.val := by simp [rdv, hr]
    rw [hv]
    obtain ⟨gd, td⟩ := rd_sound kk hr
    have hd := rdv_len kk g hs hl hr
    obtain ⟨c1, c2⟩ := cmp_none (h := [o']) (Sh.okv kk gd)
    have is1 := (F_is hK kk gd (h := [o'])).resolve_right (by omega)
    refine if_ (c := false) (h := [o']) ?_ (fun z => by cases z) fun _ => ?_
    · simp only [e_and, e_or, e_not, e_tru, e_b, e_bin, dVar, e_c, List.getElem?_cons_succ, List.getElem?_cons_zero, Res.bind_ok, c2, resB_bl, if_true, e_call, e_cons, e_nil, is1, Sh.isVal gd, vTru_bl, F_text hK kk gd (show d.size ≤ 14 by omega), td, vNe_str]
      simp
    refine if_ (c := false) (h := [o']) ?_ (fun z => by cases z) fun _ => ?_
    · simp only [e_and, e_b, e_bin, dVar, e_c, List.getElem?_cons_succ, List.getElem?_cons_zero, Res.bind_ok, c1, resB_bl]
      simp
    exact z _ _ _ ho'
end L01
set_option Elab.async false
set_option linter.all false
set_option maxRecDepth 100000
set_option maxHeartbeats 1000000
set_option autoImplicit false
namespace L01
open GH PySem
theorem B01_nil : B01 [] := fun w hw => by cases hw
theorem B01_app {a b : List Int} (ha : B01 a) (hb : B01 b) : B01 (a ++ b) := fun w hw => (List.mem_append.mp hw).elim (ha w) (hb w)
theorem Pl_prtv (s : Sh) (q : List Int) {d : Nat} (hd : s.size + 1 ≤ d) : Pl d (prtv s q) := by
  unfold prtv
  cases e : prt s q with
  | none => exact Pl_str _ _
  | some c =>
    have : c.size ≤ s.size := by
      unfold prt at e
      cases hg : go s q with
      | none => rw [hg] at e; cases e
      | some c' =>
        rw [hg] at e
        simp only [Option.bind_some] at e
        split at e
        · cases e
        · cases e
          exact (go_size q s _ hg).1
    exact Pl_sh c d (by omega)
/-- third part: a path -/
theorem law_3 {ns : Val} {K : Nat} (hK : K = 59) {n : Int} {ls : List Tx} (kk : KOk n ls) {s : Sh} (g : s.ok n ls) (hs : s.size ≤ 12) {o : Ob} (ho : TapeOb o) {rest : Stm} {P : Post} {x5 x6 x7 x8 x9 x10 x11 x12 x13 : Option Val}
    (z : ∀ o' q a, B01 q → q.length ≤ 20 → TapeOb o' → sok (rest [some ns, some (.ref 0), some (kv n ls), some s.val, some (.lst ((listed s).map pv)), x5, x6, some (pv q), a, x9, x10, x11, x12, x13] [o']) P) :
    sok ((sSeq (sAsg (dFn vTuple (dLc frozen [13] (iRange1 (dCall (lev D K 10) (dCons (dVar 1) (dCons (dC (.int 4)) dNil)))) (gName 13) dYes (dCall (lev D K 10) (dCons (dVar 1) (dCons (dC (.int 2)) dNil))))) (gName 7))
    (sSeq (sIf (dAnd (dB (dBin vNe (dVar 4) (dLst dNil))) (dB (dBin vGt (dCall (lev D K 10) (dCons (dVar 1) (dCons (dC (.int 3)) dNil))) (dC (.int 0))))) (sSeq (sAsg (dBin vAdd (dBin vIx (dVar 4) (dCall (lev D K 10) (dCons (dVar 1) (dCons (dLen (dVar 4)) dNil)))) (dBin vIx (dTup (dCons (dTup (dCons (dC (.int 0)) dNil)) (dCons (dTup (dCons (dC (.int 1)) dNil)) (dCons (dTup dNil) dNil)))) (dCall (lev D K 10) (dCons (dVar 1) (dCons (dC (.int 3)) dNil))))) (gName 7))
    sNext) sNext)
    (sSeq (sAsg (dIf (dB (dBin vIn (dVar 7) (dVar 4))) (dCall (lev D K 17) (dCons (dVar 3) (dCons (dVar 7) dNil))) (dC (.str [110, 111, 110, 101]))) (gName 8))
    (sSeq (sIf (dNot (dTru (dCall (lev D K 13) (dCons (dCall (lev D K 20) (dCons (dVar 3) (dCons (dVar 7) dNil))) (dCons (dVar 8) dNil))))) (sSeq (sRet (dC (.bl false)))
    sNext) sNext)
    rest)))) [some ns, some (.ref 0), some (kv n ls), some s.val, some (.lst ((listed s).map pv)), x5, x6, x7, x8, x9, x10, x11, x12, x13] [o]) P := by
  have tk : ∀ (m : Int) (o : Ob) (g : Hv) (P : Val → Hv → Prop), 0 < m → m < 1000 → TapeOb o → (∀ r o', 0 ≤ r → r < m → TapeOb o' → P (.int r) (o' :: g)) → ok (lev D K 10 [.ref 0, .int m] (o :: g)) P := fun m o g P h0 h1 ho z => by
    subst hK; exact take_l (k := 58) ho h0 (by omega) z
  refine asgo_ (fun v h => ∃ q o', B01 q ∧ q.length ≤ 3 ∧ TapeOb o' ∧ v = pv q ∧ h = [o']) (fun Q' hQ => ?_) ?_
  · simp only [e_fn, dLc, e_rng1, e_call, e_cons, e_nil, e_c, dVar, List.getElem?_cons_succ, List.getElem?_cons_zero, Res.bind_ok, ok_bind]
    refine tk 4 o [] _ (by omega) (by omega) ho fun r o1 r0 r1 ho1 => ?_
    obtain ⟨m, rfl⟩ : ∃ m : Nat, r = (m : Int) := ⟨r.toNat, by omega⟩
    rw [rng_ok (by omega)]
    simp only [ok_ok]
    refine lcL_invo (fun items acc h => ∃ q o', B01 q ∧ acc = q.map .int ∧ q.length + items.length ≤ 3 ∧ TapeOb o' ∧ h = [o']) ?_ ?_ _ _ _ ⟨[], o1, B01_nil, rfl, by simp [rangeL]; omega, ho1, rfl⟩
    · rintro I' hI x r acc h ⟨q, o', hb, rfl, hl, ho', rfl⟩
      refine ⟨trivial, ?_⟩
      simp only [List.length_cons] at hl
      simp only [e_name, tok_ok, e_yes, ok_ok, if_true, wipeL, List.set_cons_succ, List.set_cons_zero, List.getElem?_cons_succ, List.getElem?_cons_zero, Res.bind_ok]
      refine tk 2 o' [] _ (by omega) (by omega) ho' fun w o2 w0 w1 ho2 => ?_
      refine hI _ _ _ ⟨q ++ [w], o2, B01_app hb fun x hx => ?_, by simp, by simp; omega, ho2, rfl⟩
      rw [List.mem_singleton.mp hx]
      omega
    · rintro acc h ⟨q, o', hb, rfl, hl, ho', rfl⟩
      refine ⟨trivial, ?_⟩
      simp only [frozen, ok_ok, vTuple, seqOf, lstOf]
      exact hQ _ _ ⟨q, o', hb, by simpa using hl, ho', rfl, rfl⟩
  rintro v h ⟨q, o1, hb, hl, ho1, rfl, rfl⟩
  simp only [List.set_cons_succ, List.set_cons_zero]
  refine sok_seqo (fun l h => ∃ q o', B01 q ∧ q.length ≤ 20 ∧ TapeOb o' ∧ l = [some ns, some (.ref 0), some (kv n ls), some s.val, some (.lst ((listed s).map pv)), x5, x6, some (pv q), x8, x9, x10, x11, x12, x13] ∧ h = [o']) (fun R' hR => ?_) ?_
  · have hne := (vEq_lnil ((listed s).map pv) (okVs_pvs _) [o1]).2
    refine sifk_ ?_
    simp only [e_and, e_b, e_bin, dVar, e_lst, e_nil, List.getElem?_cons_succ, List.getElem?_cons_zero, Res.bind_ok]
    rw [mkL_ok (by simp)]
    simp only [Res.bind_ok, hne, resB_bl]
    cases hemp : ((listed s).map pv).isEmpty with
    | true =>
      simp only [Bool.not_true, Bool.false_eq_true, if_false, ok_ok, false_implies, true_and, forall_const, e_next, sok_nx]
      exact hR _ _ ⟨q, o1, hb, by omega, ho1, rfl, rfl⟩
    | false =>
      simp only [Bool.not_false, if_true, e_call, e_cons, e_c, e_nil, dVar, List.getElem?_cons_succ, List.getElem?_cons_zero, Res.bind_ok, ok_resB_eq, ok_bind]
      refine tk 3 o1 [] _ (by omega) (by omega) ho1 fun r o2 r0 r1 ho2 => ?_
      simp only [vGt_int, ok_ok]
      refine ⟨fun _ => ?_, fun _ => by simp only [e_next, sok_nx]; exact hR _ _ ⟨q, o2, hb, by omega, ho2, rfl, rfl⟩⟩
      have hpos : 0 < (listed s).length := by
        cases hL : listed s with
        | nil => rw [hL] at hemp; simp at hemp
        | cons => simp
      have hlen := listed_len s
      refine asgk_ ?_
      simp only [e_bin, e_call, e_cons, e_nil, e_len, dVar, List.getElem?_cons_succ, List.getElem?_cons_zero, Res.bind_ok, vLen_lst, List.length_map, ok_bind]
      refine tk _ o2 [] _ (by omega) (by omega) ho2 fun r2 o3 r20 r21 ho3 => ?_
      obtain ⟨v, e1, e2⟩ := nth_of (l := (listed s).map pv) r20 (by simpa using r21)
      obtain ⟨p, hp, rfl⟩ := List.mem_map.mp e2
      obtain ⟨pl, pb⟩ := listed_path hp
      rw [vIx_lst e1]
      have m0 : ∀ h, mkTup [] h = .ok (.tup []) h := fun h => mkT_ok (by simp)
      have m1 : ∀ a h, mkTup [a] h = .ok (.tup [a]) h := fun a h => mkT_ok (by simp)
      have m3 : ∀ a b c h, mkTup [a, b, c] h = .ok (.tup [a, b, c]) h := fun a b c h => mkT_ok (by simp)
      simp only [ok_ok, e_tup, e_cons, e_c, e_nil, Res.bind_ok, m0, m1, m3]
      refine tk 3 o3 [] _ (by omega) (by omega) ho3 fun r3 o4 r30 r31 ho4 => ?_
      have fin : ∀ e : List Int, B01 e → e.length ≤ 1 → ok (vAdd (pv p) (pv e) [o4]) fun v h1 => sok (sNext ([some ns, some (.ref 0), some (kv n ls), some s.val, some (.lst ((listed s).map pv)), x5, x6, some (pv q), x8, x9, x10, x11, x12, x13].set 7 (some v)) h1) { nx := R', rt := P.rt, bk := P.bk, ct := P.ct } := fun e he le => by
        rw [add_tup (by simp; omega)]
        simp only [ok_ok, e_next, sok_nx]
        exact hR _ _ ⟨p ++ e, o4, B01_app pb he, by simp; omega, ho4, by simp, rfl⟩
      obtain rfl | rfl | rfl : r3 = 0 ∨ r3 = 1 ∨ r3 = 2 := by omega
      · rw [t0]
        exact fin [0] (fun x hx => .inl (List.mem_singleton.mp hx)) (by simp)
      · rw [t1]
        exact fin [1] (fun x hx => .inr (List.mem_singleton.mp hx)) (by simp)
      · rw [t2]
        exact fin [] B01_nil (by simp)
  rintro l h ⟨q, o2, hb, hl, ho2, rfl, rfl⟩
  have e1 : dIf (dB (dBin vIn (dVar 7) (dVar 4))) (dCall (lev D K 17) (dCons (dVar 3) (dCons (dVar 7) dNil))) (dC (.str [110, 111, 110, 101])) [some ns, some (.ref 0), some (kv n ls), some s.val, some (.lst ((listed s).map pv)), x5, x6, some (pv q), x8, x9, x10, x11, x12, x13] [o2] = .ok (prtv s q) [o2] := by
    simp only [e_dif, e_b, e_bin, dVar, List.getElem?_cons_succ, List.getElem?_cons_zero, Res.bind_ok, inSeq_pvL, resB_bl]
    by_cases hq : q ∈ listed s
    · obtain ⟨c, ec, ep⟩ := prt_some hq
      have : lev D K 17 [s.val, pv q] [o2] = .ok c.val [o2] := by subst hK; exact lpart_a (k := 58) ec
      simp [hq, dVar, this, prtv, ep]
    · simp [hq, prtv, prt_none hq, noneT]
  refine asg_ e1 ?_
  simp only [List.set_cons_succ, List.set_cons_zero]
  have e2 : lev D K 20 [s.val, pv q] [o2] = .ok (prtv s q) [o2] := by subst hK; exact try_part_a (k := 57)
  have e3 := F_same hK (Pl_prtv s q (d := 15) (by omega)) (by omega) (h := [o2])
  refine if_ (c := false) (h := [o2]) ?_ (fun z => by cases z) fun _ => ?_
  · simp only [e_not, e_tru, e_call, e_cons, e_nil, dVar, List.getElem?_cons_succ, List.getElem?_cons_zero, Res.bind_ok, e2, e3, vTru_bl, Bool.not_true]
  exact z _ _ _ hb hl ho2
theorem Pl_putv {n : Int} {ls : List Tx} (s x : Sh) (q : List Int) {d : Nat} (hd : s.size + x.size + 1 ≤ d) : Pl d (putv s q x) := by
  unfold putv
  split
  · exact Pl_sh _ d (by have := put_size q s x; omega)
  · exact Pl_str _ _
/-- fourth part: a part put in -/
theorem law_4 {ns : Val} {K : Nat} (hK : K = 59) {n : Int} {ls : List Tx} (kk : KOk n ls) {s : Sh} (g : s.ok n ls) (hs : s.size ≤ 12) {o : Ob} (ho : TapeOb o) {q : List Int} (hb : B01 q) (hq : q.length ≤ 20) {rest : Stm} {P : Post} {x5 x6 x8 x9 x10 x11 x12 x13 : Option Val}
    (z : ∀ o' a b, TapeOb o' → sok (rest [some ns, some (.ref 0), some (kv n ls), some s.val, some (.lst ((listed s).map pv)), x5, x6, some (pv q), x8, a, b, x11, x12, x13] [o']) P) :
    sok ((sSeq (sAsg (dCall (lev D K 15) (dCons (dVar 1) (dCons (dVar 2) (dCons (dCall (lev D K 10) (dCons (dVar 1) (dCons (dC (.int 3)) dNil))) dNil)))) (gName 9))
    (sSeq (sAsg (dOrV (dBin vEq (dVar 7) (dTup dNil)) (dAndV (dBin vIn (dCut (dVar 7) oNone (oSome (dNeg (dC (.int 1))))) (dVar 4)) (dBin vLt (dBin vIx (dVar 7) (dNeg (dC (.int 1)))) (dBin vIx (dVar 2) (dC (.int 0)))))) (gName 10))
    (sSeq (sIf (dNot (dTru (dCall (lev D K 13) (dCons (dCall (lev D K 21) (dCons (dVar 3) (dCons (dVar 7) (dCons (dVar 9) dNil)))) (dCons (dIf (dTru (dVar 10)) (dCall (lev D K 22) (dCons (dVar 3) (dCons (dVar 7) (dCons (dVar 9) dNil)))) (dC (.str [110, 111, 110, 101]))) dNil))))) (sSeq (sRet (dC (.bl false)))
    sNext) sNext)
    rest))) [some ns, some (.ref 0), some (kv n ls), some s.val, some (.lst ((listed s).map pv)), x5, x6, some (pv q), x8, x9, x10, x11, x12, x13] [o]) P := by
  refine asgo_ (fun v h => ∃ (x : Sh) (o' : Ob), x.ok n ls ∧ x.size ≤ 2 ∧ TapeOb o' ∧ v = x.val ∧ h = [o']) (fun Q' hQ => ?_) ?_
  · simp only [e_call, e_cons, e_nil, e_c, dVar, List.getElem?_cons_succ, List.getElem?_cons_zero, Res.bind_ok, ok_bind]
    subst hK
    refine take_l (k := 58) ho (by omega) (by omega) fun r o1 r0 r1 ho1 => ?_
    obtain ⟨m, rfl⟩ : ∃ m : Nat, r = (m : Int) := ⟨r.toNat, by omega⟩
    simp only [ok_ok]
    refine lv (show 59 = (57 - m) + m + 2 by omega) (shape_sp m ho1 kk (by omega) fun x o2 hx gx ho2 => hQ _ _ ⟨x, o2, gx, by omega, ho2, rfl, rfl⟩)
  rintro v h ⟨x, o1, gx, hx, ho1, rfl, rfl⟩
  simp only [List.set_cons_succ, List.set_cons_zero]
  have e1 : dOrV (dBin vEq (dVar 7) (dTup dNil)) (dAndV (dBin vIn (dCut (dVar 7) oNone (oSome (dNeg (dC (.int 1))))) (dVar 4)) (dBin vLt (dBin vIx (dVar 7) (dNeg (dC (.int 1)))) (dBin vIx (dVar 2) (dC (.int 0))))) [some ns, some (.ref 0), some (kv n ls), some s.val, some (.lst ((listed s).map pv)), x5, x6, some (pv q), x8, some x.val, x10, x11, x12, x13] [o1] = .ok (.bl (go s q).isSome) [o1] := by
    have m0 : ∀ h, mkTup [] h = .ok (.tup []) h := fun h => mkT_ok (by simp)
    simp only [e_orv, e_bin, dVar, e_tup, e_nil, List.getElem?_cons_succ, List.getElem?_cons_zero, Res.bind_ok, m0]
    rw [show vEq (pv q) (.tup []) [o1] = .ok (.bl (decide (q = []))) [o1] from vEq_pv q [] [o1]]
    rcases List.eq_nil_or_concat q with rfl | ⟨p, w, rfl⟩
    · simp [go_nil]
    · rw [List.concat_eq_append] at *
      have hne : ¬ (p ++ [w] = []) := by simp
      simp only [hne, decide_false, Res.bind_ok]
      have hc : vCut (pv (p ++ [w])) none (some (-1)) [o1] = .ok (pv p) [o1] := by
        simp only [vCut, List.map_append, List.map_cons, List.map_nil, cut_last]
      have hi : vIx (pv (p ++ [w])) (.int (-1)) [o1] = .ok (.int w) [o1] := by
        rw [show pv (p ++ [w]) = .tup (p.map Val.int ++ [.int w]) by simp]
        exact ix_lastT _ _ _
      simp only [e_andv, e_bin, e_cut, dVar, e_onone, e_osome, e_neg, List.getElem?_cons_succ, List.getElem?_cons_zero, Res.bind_ok, hc, inSeq_pvL]
      have hw : w = 0 ∨ w = 1 := hb w (by simp)
      have hr := reach_iff g p w hw
      rw [← hr]
      cases hp : decide (p ∈ listed s) with
      | true =>
        simp only [Res.bind_ok, e_bin, dVar, e_neg, e_c, List.getElem?_cons_succ, List.getElem?_cons_zero, hi, t0, vLt_int, Bool.true_and]
      | false =>
        simp only [Res.bind_ok, Bool.false_and]
  refine asg_ e1 ?_
  simp only [List.set_cons_succ, List.set_cons_zero]
  have e2 : lev D K 21 [s.val, pv q, x.val] [o1] = .ok (putv s q x) [o1] := by subst hK; exact try_with_a kk (k := 57) g gx (by omega)
  have e3 : dIf (dTru (dVar 10)) (dCall (lev D K 22) (dCons (dVar 3) (dCons (dVar 7) (dCons (dVar 9) dNil)))) (dC (.str [110, 111, 110, 101])) [some ns, some (.ref 0), some (kv n ls), some s.val, some (.lst ((listed s).map pv)), x5, x6, some (pv q), x8, some x.val, some (.bl (go s q).isSome), x11, x12, x13] [o1] = .ok (putv s q x) [o1] := by
    simp only [e_dif, e_tru, dVar, List.getElem?_cons_succ, List.getElem?_cons_zero, Res.bind_ok, vTru_bl]
    cases hg : go s q with
    | none => simp [putv, hg, noneT]
    | some c =>
      have : lev D K 22 [s.val, pv q, x.val] [o1] = .ok (put s q x).val [o1] := by
        obtain ⟨k, rfl⟩ : ∃ k, K = k + q.length + 1 := ⟨59 - q.length - 1, by omega⟩
        exact lwith_a q s hg
      simp [putv, hg, dVar, this]
  have e4 := F_same hK (Pl_putv (n := n) (ls := ls) s x q (d := 16) (by omega)) (by omega) (h := [o1])
  refine if_ (c := false) (h := [o1]) ?_ (fun z => by cases z) fun _ => ?_
  · simp only [e_not, e_tru, e_call, e_cons, e_nil] at e3 ⊢
    simp only [dVar, List.getElem?_cons_succ, List.getElem?_cons_zero, Res.bind_ok, e2] at e3 ⊢
    simp only [e3, Res.bind_ok, e4, vTru_bl, Bool.not_true]
  exact z _ _ _ ho1
end L01
set_option Elab.async false
set_option linter.all false
set_option maxRecDepth 100000
set_option maxHeartbeats 1000000
set_option autoImplicit false
namespace L01
open GH PySem
abbrev kp (q : Int × List Tx) : Val := kv q.1 q.2
/-- the last part: other values, other kinds -/
theorem law_5 {ns : Val} {K : Nat} (hK : K = 59) {n : Int} {ls : List Tx} (kk : KOk n ls) {s : Sh} (g : s.ok n ls) (hs : s.size ≤ 12) {o : Ob} (ho : TapeOb o) {P : Val → Hv → Prop} {Q : Post} (hQ : Q.rt = P) {x4 x5 x6 x7 x8 x9 x10 x11 x12 x13 : Option Val}
    (z : ∀ h, P (.bl true) h) :
    sok ((sSeq (sAsg (dBin vIx (dLst (dCons (dVar 3) (dCons (dTup (dCons (dVar 3) dNil)) (dCons (dBin vAdd (dTup (dCons (dC (.str [113])) dNil)) (dCut (dVar 3) (oSome (dC (.int 1))) oNone)) (dCons (dBin vAdd (dVar 3) (dTup (dCons (dTup dNil) dNil))) (dCons (dTup (dCons (dC (.str [97])) (dCons (dVar 3) dNil))) (dCons (dTup (dCons (dC (.str [97])) (dCons (dC (.str [98])) (dCons (dVar 3) dNil)))) dNil))))))) (dCall (lev D K 10) (dCons (dVar 1) (dCons (dC (.int 6)) dNil)))) (gName 11))
    (sSeq (sIf (dNot (dTru (dCall (lev D K 13) (dCons (dCall (lev D K 1) (dCons (dVar 2) (dCons (dVar 11) dNil))) (dCons (dCall (lev D K 24) (dCons (dVar 2) (dCons (dVar 11) dNil))) dNil))))) (sSeq (sRet (dC (.bl false)))
    sNext) sNext)
    (sSeq (sAsg (dLstM (dCons (dTup (dCons (dC (.int 3)) (dCons (dTup (dCons (dC (.str [97])) dNil)) dNil))) (dCons (dTup (dCons (dC (.int 0)) (dCons (dTup (dCons (dC (.str [97])) dNil)) dNil))) (dCons (dTup (dCons (dC (.int 1)) (dCons (dTup dNil) dNil))) (dCons (dTup (dCons (dC (.int 2)) (dCons (dTup (dCons (dC (.str [98])) (dCons (dC (.str [97])) dNil))) dNil))) (dCons (dTup (dCons (dC (.int 1)) (dCons (dTup (dCons (dC (.str [97])) (dCons (dC (.str [97])) dNil))) dNil))) (dCons (dTup (dCons (dC (.int 1)) (dCons (dTup (dCons (dC (.str [97, 98])) dNil)) dNil))) (dCons (dTup (dCons (dC (.int 2)) (dCons (dTup (dCons (dC (.str [65])) dNil)) dNil))) dNil)))))))) (gName 12))
    (sSeq (sExpr (dMeth1 isLst vAppend (dVar 12) (dTup (dCons (dC (.int 1)) (dCons (dTup (dCons (dC (.str [97])) (dCons (dC (.str [98])) (dCons (dC (.str [99])) (dCons (dC (.str [100])) dNil))))) dNil)))))
    (sSeq (sRet (dAndV (dCall (lev D K 25) (dCons (dVar 2) dNil)) (dNotV (dCall (lev D K 25) (dCons (dBin vIx (dVar 12) (dCall (lev D K 10) (dCons (dVar 1) (dCons (dC (.int 8)) dNil)))) dNil)))))
    sNext))))) [some ns, some (.ref 0), some (kv n ls), some s.val, x4, x5, x6, x7, x8, x9, x10, x11, x12, x13] [o]) Q := by
  have tk : ∀ (m : Int) (o : Ob) (g : Hv) (P : Val → Hv → Prop), 0 < m → m < 1000 → TapeOb o → (∀ r o', 0 ≤ r → r < m → TapeOb o' → P (.int r) (o' :: g)) → ok (lev D K 10 [.ref 0, .int m] (o :: g)) P := fun m o g P h0 h1 ho z => by
    subst hK; exact take_l (k := 58) ho h0 (by omega) z
  refine asgo_ (fun v h => ∃ (o' : Ob), v ∈ others s ∧ TapeOb o' ∧ h = [o']) (fun Q' hQ => ?_) ?_
  · rw [e_bin, others_d (K := K) rfl]
    simp only [Res.bind_ok, e_call, e_cons, e_nil, e_c, dVar, List.getElem?_cons_succ, List.getElem?_cons_zero, ok_bind]
    refine tk 6 o [] _ (by omega) (by omega) ho fun r o1 r0 r1 ho1 => ?_
    obtain ⟨v, e1, e2⟩ := nth_of (l := others s) r0 (by simpa [others] using r1)
    rw [vIx_lst e1]
    exact hQ _ _ ⟨o1, e2, ho1, rfl⟩
  rintro v h ⟨o1, hv, ho1, rfl⟩
  simp only [List.set_cons_succ, List.set_cons_zero]
  obtain ⟨wv, zv⟩ := others_ok kk g hs v hv
  have e1 : lev D K 1 [kv n ls, v] [o1] = .ok (.bl (isV n ls v)) [o1] := by subst hK; exact is_shape_a kk (k := 57) wv (by omega)
  have e2 : lev D K 24 [kv n ls, v] [o1] = .ok (.bl (isV n ls v)) [o1] := by subst hK; exact lis_a kk 50 (k := 8) (by omega) (by omega) wv
  have e3 := F_same hK (Pl_bl 0 (isV n ls v)) (by omega) (h := [o1])
  refine if_ (c := false) (h := [o1]) ?_ (fun z => by cases z) fun _ => ?_
  · simp only [e_not, e_tru, e_call, e_cons, e_nil, dVar, List.getElem?_cons_succ, List.getElem?_cons_zero, Res.bind_ok, e1, e2, e3, vTru_bl, Bool.not_true]
  have m0 : ∀ h, mkTup [] h = .ok (.tup []) h := fun h => mkT_ok (by simp)
  have m1 : ∀ a h, mkTup [a] h = .ok (.tup [a]) h := fun a h => mkT_ok (by simp)
  have m2 : ∀ a b h, mkTup [a, b] h = .ok (.tup [a, b]) h := fun a b h => mkT_ok (by simp)
  have m4 : ∀ a b c d h, mkTup [a, b, c, d] h = .ok (.tup [a, b, c, d]) h := fun a b c d h => mkT_ok (by simp)
  refine asg_ (h1 := [o1, .lst ((wrongs.take 7).map kp)]) (v := .ref 1) ?_ ?_
  · simp only [e_lstM, e_cons, e_nil, e_tup, e_c, Res.bind_ok, m0, m1, m2, mkRef]
    rw [if_pos (by simp [lineN])]
    rfl
  simp only [List.set_cons_succ, List.set_cons_zero]
  refine expr_ (h1 := [o1, .lst (wrongs.map kp)]) (v := .non) ?_ ?_
  · have e0 : dTup (dCons (dC (.int 1)) (dCons (dTup (dCons (dC (.str [97])) (dCons (dC (.str [98])) (dCons (dC (.str [99])) (dCons (dC (.str [100])) dNil))))) dNil)) [some ns, some (.ref 0), some (kv n ls), some s.val, x4, x5, x6, x7, x8, x9, x10, some v, some (.ref 1), x13] [o1, .lst ((wrongs.take 7).map kp)] = .ok (kp (1, [[97], [98], [99], [100]])) [o1, .lst ((wrongs.take 7).map kp)] := by
      simp only [e_cons, e_nil, e_tup, e_c, Res.bind_ok, m2, m4]
      rfl
    have := app1 (l := [some ns, some (.ref 0), some (kv n ls), some s.val, x4, x5, x6, x7, x8, x9, x10, some v, some (.ref 1), x13]) (i := 12) (j := 1) (L := (wrongs.take 7).map kp) (h := [o1, .lst ((wrongs.take 7).map kp)]) rfl rfl e0 (by simp)
    exact this
  refine ret_ ?_
  have k1 : ∀ h, lev D K 25 [kv n ls] h = .ok (.bl true) h := fun h => by subst hK; exact kr_ok (k := 57) (b := true) (kind_a kk)
  have k2 : ∀ q ∈ wrongs, ∀ h, lev D K 25 [kp q] h = .ok (.bl false) h := fun q hq h => by subst hK; exact kr_ok (k := 57) (b := false) (wrong_a hq)
  rw [hQ]
  simp only [e_andv, e_notv, e_bin, e_call, e_cons, e_nil, e_c, dVar, List.getElem?_cons_succ, List.getElem?_cons_zero, Res.bind_ok, k1, ok_bind]
  refine tk 8 o1 _ _ (by omega) (by omega) ho1 fun r o2 r0 r1 ho2 => ?_
  obtain ⟨w, e1, e2⟩ := nth_of (l := wrongs.map kp) r0 (by simpa using r1)
  obtain ⟨q, hq, rfl⟩ := List.mem_map.mp e2
  have hix : vIx (.ref 1) (.int r) [o2, .lst (wrongs.map kp)] = .ok (kp q) [o2, .lst (wrongs.map kp)] := by
    simp only [vIx, seqOf, lstOf, List.getElem?_cons_succ, List.getElem?_cons_zero, e1]
  rw [hix]
  simp only [ok_ok, k2 q hq]
  exact z _
theorem law_true (ns : List Int) (h0 : ns.length ≤ 63) : ∃ h', lev D 60 26 [.fz (ns.map .int)] [] = .ok (.bl true) h' := by
  have main : ∀ K, K = 59 → ok (runDef 14 (b_law (lev D K)) [.fz (ns.map .int)] []) fun v _ => v = .bl true := by
    intro K hK
    rw [ok_run]
    unfold b_law
    generalize hs0 : Val.fz (ns.map .int) = s0
    refine asgo_ (fun v h => ∃ o, TapeOb o ∧ v = .ref 0 ∧ h = [o]) (fun Q' hQ => ?_) ?_
    · simp only [e_call, e_cons, e_nil, dVar, List.map_cons, List.map_nil, List.cons_append, List.nil_append, List.length_cons, List.length_nil, List.replicate, List.getElem?_cons_zero, Res.bind_ok]
      subst hK hs0
      exact tape_sp (h := []) fun o ho => hQ _ _ ⟨o, ho, rfl, rfl⟩
    rintro v h ⟨o, ho, rfl, rfl⟩
    simp only [List.map_cons, List.map_nil, List.length_cons, List.length_nil, List.cons_append, List.nil_append, List.replicate, List.set_cons_succ, List.set_cons_zero]
    refine asgo_ (fun v h => ∃ n0 ls o, KOk n0 ls ∧ TapeOb o ∧ v = kv n0 ls ∧ h = [o]) (fun Q' hQ => ?_) ?_
    · simp only [e_call, e_cons, e_nil, dVar, List.getElem?_cons_succ, List.getElem?_cons_zero, Res.bind_ok]
      subst hK
      exact kind_sp (k := 57) ho fun n0 ls o' kk ho' => hQ _ _ ⟨n0, ls, o', kk, ho', rfl, rfl⟩
    rintro v h ⟨n0, ls, o, kk, ho, rfl, rfl⟩
    simp only [List.set_cons_succ, List.set_cons_zero]
    refine asgo_ (fun v h => ∃ (s : Sh) (o : Ob), s.ok n0 ls ∧ s.size ≤ 12 ∧ TapeOb o ∧ v = s.val ∧ h = [o]) (fun Q' hQ => ?_) ?_
    · simp only [e_call, e_cons, e_nil, e_c, dVar, List.getElem?_cons_succ, List.getElem?_cons_zero, Res.bind_ok, ok_bind]
      subst hK
      refine take_l (k := 58) ho (by omega) (by omega) fun r o1 r0 r1 ho1 => ?_
      obtain ⟨m, rfl⟩ : ∃ m : Nat, r = (m : Int) := ⟨r.toNat, by omega⟩
      simp only [ok_ok]
      refine lv (show 59 = (57 - m) + m + 2 by omega) (shape_sp m ho1 kk (by omega) fun x o2 hx gx ho2 => hQ _ _ ⟨x, o2, gx, by omega, ho2, rfl, rfl⟩)
    rintro v h ⟨s, o, g, hs, ho, rfl, rfl⟩
    simp only [List.set_cons_succ, List.set_cons_zero]
    refine law_1 hK kk g hs ?_
    refine law_2 hK kk g hs ho fun o1 a b ho1 => ?_
    refine law_3 hK kk g hs ho1 fun o2 q c hb hq ho2 => ?_
    refine law_4 hK kk g hs ho2 hb hq fun o3 d e ho3 => ?_
    exact law_5 hK kk g hs ho3 (P := fun v _ => v = .bl true) rfl fun h => rfl
  obtain ⟨v, h', e, rfl⟩ := ok_eq (main 59 rfl)
  exact ⟨h', e⟩
end L01
set_option Elab.async false
set_option linter.all false
set_option maxRecDepth 100000
set_option maxHeartbeats 0
namespace L01
open PySem PySem.Spec PyProof.Rows L2 GH

def fn0 : List He.DefD := ([⟨("check_kind", none), "check_kind", "check_kind", defArgs (top 7), defBody (top 7), defScope (top 7), [], []⟩, ⟨("is_shape", none), "is_shape", "is_shape", defArgs (top 8), defBody (top 8), defScope (top 8), [], []⟩, ⟨("all_elements", none), "all_elements", "all_elements", defArgs (top 9), defBody (top 9), defScope (top 9), [], []⟩, ⟨("size", none), "size", "size", defArgs (top 10), defBody (top 10), defScope (top 10), [], []⟩, ⟨("paths", none), "paths", "paths", defArgs (top 11), defBody (top 11), defScope (top 11), [], []⟩, ⟨("part", none), "part", "part", defArgs (top 12), defBody (top 12), defScope (top 12), [], []⟩, ⟨("with_part", none), "with_part", "with_part", defArgs (top 13), defBody (top 13), defScope (top 13), [], []⟩, ⟨("write_shape", none), "write_shape", "write_shape", defArgs (top 14), defBody (top 14), defScope (top 14), [], []⟩, ⟨("read_shape", none), "read_shape", "read_shape", defArgs (top 16), defBody (top 16), defScope (top 16), [], []⟩, ⟨("_law_tape", none), "_law_tape", "_law_tape", defArgs (top 18), defBody (top 18), defScope (top 18), [], []⟩, ⟨("_law_take", none), "_law_take", "_law_take", defArgs (top 19), defBody (top 19), defScope (top 19), [], []⟩, ⟨("_law_is_integer", none), "_law_is_integer", "_law_is_integer", defArgs (top 20), defBody (top 20), defScope (top 20), [], []⟩, ⟨("_law_same_items", none), "_law_same_items", "_law_same_items", defArgs (top 21), defBody (top 21), defScope (top 21), [], []⟩, ⟨("_law_same", none), "_law_same", "_law_same", defArgs (top 22), defBody (top 22), defScope (top 22), [], []⟩, ⟨("_law_kind", none), "_law_kind", "_law_kind", defArgs (top 23), defBody (top 23), defScope (top 23), [], []⟩, ⟨("_law_shape", none), "_law_shape", "_law_shape", defArgs (top 24), defBody (top 24), defScope (top 24), [], []⟩, ⟨("_law_paths", none), "_law_paths", "_law_paths", defArgs (top 25), defBody (top 25), defScope (top 25), [], []⟩, ⟨("_law_part", none), "_law_part", "_law_part", defArgs (top 26), defBody (top 26), defScope (top 26), [], []⟩, ⟨("_law_text", none), "_law_text", "_law_text", defArgs (top 27), defBody (top 27), defScope (top 27), [], []⟩, ⟨("_law_read", none), "_law_read", "_law_read", defArgs (top 28), defBody (top 28), defScope (top 28), [], []⟩, ⟨("_law_try_part", none), "_law_try_part", "_law_try_part", defArgs (top 29), defBody (top 29), defScope (top 29), [], []⟩, ⟨("_law_try_with", none), "_law_try_with", "_law_try_with", defArgs (top 30), defBody (top 30), defScope (top 30), [], []⟩, ⟨("_law_with", none), "_law_with", "_law_with", defArgs (top 31), defBody (top 31), defScope (top 31), [], []⟩, ⟨("_law_bent", none), "_law_bent", "_law_bent", defArgs (top 32), defBody (top 32), defScope (top 32), [], []⟩, ⟨("_law_is", none), "_law_is", "_law_is", defArgs (top 33), defBody (top 33), defScope (top 33), [], []⟩, ⟨("_law_kind_right", none), "_law_kind_right", "_law_kind_right", defArgs (top 34), defBody (top 34), defScope (top 34), [], []⟩, ⟨("law", none), "law", "law", defArgs (top 35), defBody (top 35), defScope (top 35), [], []⟩, ⟨(sOf [83, 104, 97, 112, 101, 82, 101, 97, 100, 101, 114], some (sOf [95, 95, 105, 110, 105, 116, 95, 95])), "__init__", "ShapeReader.__init__", defArgs (mth 15 0), defBody (mth 15 0), defScope (mth 15 0), [], []⟩, ⟨(sOf [83, 104, 97, 112, 101, 82, 101, 97, 100, 101, 114], some (sOf [115, 105, 103, 110])), "sign", "ShapeReader.sign", defArgs (mth 15 1), defBody (mth 15 1), defScope (mth 15 1), [], []⟩, ⟨(sOf [83, 104, 97, 112, 101, 82, 101, 97, 100, 101, 114], some (sOf [116, 97, 107, 101])), "take", "ShapeReader.take", defArgs (mth 15 2), defBody (mth 15 2), defScope (mth 15 2), [], []⟩])
def fn1 : List He.DefD := ([⟨(sOf [83, 104, 97, 112, 101, 82, 101, 97, 100, 101, 114], some (sOf [115, 104, 97, 112, 101])), "shape", "ShapeReader.shape", defArgs (mth 15 3), defBody (mth 15 3), defScope (mth 15 3), [], []⟩, ⟨(sOf [83, 104, 97, 112, 101, 82, 101, 97, 100, 101, 114], some (sOf [102, 105, 110, 105, 115, 104])), "finish", "ShapeReader.finish", defArgs (mth 15 4), defBody (mth 15 4), defScope (mth 15 4), [], []⟩])
def fn : List He.DefD := fn0 ++ fn1
def fa0 : List He.Fa := ([.glo "check_kind", .glo "is_shape", .glo "all_elements", .glo "size", .glo "paths", .glo "part", .glo "with_part", .glo "write_shape", .glo "read_shape", .glo "_law_tape", .glo "_law_take", .glo "_law_is_integer", .glo "_law_same_items", .glo "_law_same", .glo "_law_kind", .glo "_law_shape", .glo "_law_paths", .glo "_law_part", .glo "_law_text", .glo "_law_read", .glo "_law_try_part", .glo "_law_try_with", .glo "_law_with", .glo "_law_bent", .glo "_law_is", .glo "_law_kind_right", .glo "law", .free "abs", .free "all", .free "bool"])
def fa1 : List He.Fa := ([.free "dict", .free "enumerate", .free "int", .free "isinstance", .free "len", .free "list", .free "range", .free "set", .free "sorted", .free "str", .free "tuple", .str "LETTERS" (sOf [97, 98, 99, 100, 101, 102, 103, 104, 105, 106, 107, 108, 109, 110, 111, 112, 113, 114, 115, 116, 117, 118, 119, 120, 121, 122]), .exc (sOf [83, 97, 121, 69, 114, 114, 111, 114]), .glo (sOf [83, 97, 121, 69, 114, 114, 111, 114]), .exc (sOf [73, 110, 118, 97, 108, 105, 100, 75, 105, 110, 100]), .glo (sOf [73, 110, 118, 97, 108, 105, 100, 75, 105, 110, 100]), .exc (sOf [73, 110, 118, 97, 108, 105, 100, 83, 104, 97, 112, 101]), .glo (sOf [73, 110, 118, 97, 108, 105, 100, 83, 104, 97, 112, 101]), .exc (sOf [78, 111, 83, 117, 99, 104, 69, 108, 101, 109, 101, 110, 116]), .glo (sOf [78, 111, 83, 117, 99, 104, 69, 108, 101, 109, 101, 110, 116]), .exm (sOf [83, 97, 121, 69, 114, 114, 111, 114]) (sOf [73, 110, 118, 97, 108, 105, 100, 75, 105, 110, 100]) false, .exm (sOf [73, 110, 118, 97, 108, 105, 100, 75, 105, 110, 100]) (sOf [73, 110, 118, 97, 108, 105, 100, 75, 105, 110, 100]) true, .exm (sOf [73, 110, 118, 97, 108, 105, 100, 83, 104, 97, 112, 101]) (sOf [73, 110, 118, 97, 108, 105, 100, 75, 105, 110, 100]) false, .exm (sOf [78, 111, 83, 117, 99, 104, 69, 108, 101, 109, 101, 110, 116]) (sOf [73, 110, 118, 97, 108, 105, 100, 75, 105, 110, 100]) false, .exm (sOf [83, 97, 121, 69, 114, 114, 111, 114]) (sOf [73, 110, 118, 97, 108, 105, 100, 83, 104, 97, 112, 101]) false, .exm (sOf [73, 110, 118, 97, 108, 105, 100, 75, 105, 110, 100]) (sOf [73, 110, 118, 97, 108, 105, 100, 83, 104, 97, 112, 101]) false, .exm (sOf [73, 110, 118, 97, 108, 105, 100, 83, 104, 97, 112, 101]) (sOf [73, 110, 118, 97, 108, 105, 100, 83, 104, 97, 112, 101]) true, .exm (sOf [78, 111, 83, 117, 99, 104, 69, 108, 101, 109, 101, 110, 116]) (sOf [73, 110, 118, 97, 108, 105, 100, 83, 104, 97, 112, 101]) false, .exm (sOf [83, 97, 121, 69, 114, 114, 111, 114]) (sOf [78, 111, 83, 117, 99, 104, 69, 108, 101, 109, 101, 110, 116]) false, .exm (sOf [73, 110, 118, 97, 108, 105, 100, 75, 105, 110, 100]) (sOf [78, 111, 83, 117, 99, 104, 69, 108, 101, 109, 101, 110, 116]) false])
def fa2 : List He.Fa := ([.exm (sOf [73, 110, 118, 97, 108, 105, 100, 83, 104, 97, 112, 101]) (sOf [78, 111, 83, 117, 99, 104, 69, 108, 101, 109, 101, 110, 116]) false, .exm (sOf [78, 111, 83, 117, 99, 104, 69, 108, 101, 109, 101, 110, 116]) (sOf [78, 111, 83, 117, 99, 104, 69, 108, 101, 109, 101, 110, 116]) true, .cls (sOf [83, 104, 97, 112, 101, 82, 101, 97, 100, 101, 114]), .mkr (sOf [83, 104, 97, 112, 101, 82, 101, 97, 100, 101, 114]), .glo (sOf [83, 104, 97, 112, 101, 82, 101, 97, 100, 101, 114]), .noat (sOf [83, 104, 97, 112, 101, 82, 101, 97, 100, 101, 114]) (sOf [97, 116]), .noat (sOf [83, 104, 97, 112, 101, 82, 101, 97, 100, 101, 114]) (sOf [108, 97, 98, 101, 108, 115]), .noat (sOf [83, 104, 97, 112, 101, 82, 101, 97, 100, 101, 114]) (sOf [116, 101, 120, 116]), .noat (sOf [83, 104, 97, 112, 101, 82, 101, 97, 100, 101, 114]) (sOf [119, 97, 121, 115]), .meth (sOf [83, 104, 97, 112, 101, 82, 101, 97, 100, 101, 114]) (sOf [95, 95, 105, 110, 105, 116, 95, 95]), .meth (sOf [83, 104, 97, 112, 101, 82, 101, 97, 100, 101, 114]) (sOf [115, 105, 103, 110]), .meth (sOf [83, 104, 97, 112, 101, 82, 101, 97, 100, 101, 114]) (sOf [116, 97, 107, 101]), .meth (sOf [83, 104, 97, 112, 101, 82, 101, 97, 100, 101, 114]) (sOf [115, 104, 97, 112, 101]), .meth (sOf [83, 104, 97, 112, 101, 82, 101, 97, 100, 101, 114]) (sOf [102, 105, 110, 105, 115, 104])])
def fa : List He.Fa := fa0 ++ fa1 ++ fa2
def nm0 : List PySem.Str := ([("SayError" : PySem.Str), ("InvalidKind" : PySem.Str), ("InvalidShape" : PySem.Str), ("NoSuchElement" : PySem.Str), ("LETTERS" : PySem.Str), ("check_kind" : PySem.Str), ("is_shape" : PySem.Str), ("all_elements" : PySem.Str), ("size" : PySem.Str), ("paths" : PySem.Str), ("part" : PySem.Str), ("with_part" : PySem.Str), ("write_shape" : PySem.Str), ("ShapeReader" : PySem.Str), ("read_shape" : PySem.Str), ("_law_tape" : PySem.Str), ("_law_take" : PySem.Str), ("_law_is_integer" : PySem.Str), ("_law_same_items" : PySem.Str), ("_law_same" : PySem.Str), ("_law_kind" : PySem.Str), ("_law_shape" : PySem.Str), ("_law_paths" : PySem.Str), ("_law_part" : PySem.Str), ("_law_text" : PySem.Str), ("_law_read" : PySem.Str), ("_law_try_part" : PySem.Str), ("_law_try_with" : PySem.Str), ("_law_with" : PySem.Str), ("_law_bent" : PySem.Str)])
def nm1 : List PySem.Str := ([("_law_is" : PySem.Str), ("_law_kind_right" : PySem.Str)])
def nm : List PySem.Str := nm0 ++ nm1
def ex (K : PySem.W.Frag) : Bool := [GH.excCB K (clsA K [73, 110, 118, 97, 108, 105, 100, 83, 104, 97, 112, 101]), GH.kitB K (clsA K [73, 110, 118, 97, 108, 105, 100, 83, 104, 97, 112, 101]) (clsA K [83, 97, 121, 69, 114, 114, 111, 114]) true].all id
theorem ex_at {K : PySem.W.Frag} (c : ex K = true) (i : Nat) {b : Bool} (h : [GH.excCB K (clsA K [73, 110, 118, 97, 108, 105, 100, 83, 104, 97, 112, 101]), GH.kitB K (clsA K [73, 110, 118, 97, 108, 105, 100, 83, 104, 97, 112, 101]) (clsA K [83, 97, 121, 69, 114, 114, 111, 114]) true][i]? = some b := by rfl) : b = true := List.all_eq_true.mp c b (List.mem_of_getElem? h)
abbrev R : PySem.W.OpenRow := PySem.W.OpenLaw.row PySem.Challenge.rw_grovehouse_k01_shapes_and_their_texts
abbrev hk : PySem.W.Hook := He.hookX 7 fa fn [] [] ex
def ob (s : PySem.W.SharedT) : He.AlX := He.obsX 7 fa fn [] [] ex (HandSHeadRun.getT s)
theorem ob_eq (s : PySem.W.SharedT) : ob s = hk.obs s.abs := He.obsX_eq (HandSHeadRun.getT_eq s)
theorem run (w : World) : HandSHeadRun.RunEq R (PySem.W.view R.prog [35]) hk ob 3000 nm w := by
  intro os
  kernel_rfl
theorem u_check_kind {K : PySem.W.Frag} (c : He.SaysD fa fn K) : ∃ fd, FnP K "check_kind" 7 fd ∧ Binds K fd ["kind"] [] := by
  obtain ⟨fd, F⟩ := c.def_ 0 (d := ⟨("check_kind", none), "check_kind", "check_kind", defArgs (top 7), defBody (top 7), defScope (top 7), [], []⟩) rfl
  exact ⟨fd, F, FunD.bindsN (ps := ["kind"]) F fun _ _ _ _ _ _ us hl => match us, hl with | [_], _ => rfl⟩
theorem u_is_shape {K : PySem.W.Frag} (c : He.SaysD fa fn K) : ∃ fd, FnP K "is_shape" 8 fd ∧ Binds K fd ["kind", "value"] [] := by
  obtain ⟨fd, F⟩ := c.def_ 1 (d := ⟨("is_shape", none), "is_shape", "is_shape", defArgs (top 8), defBody (top 8), defScope (top 8), [], []⟩) rfl
  exact ⟨fd, F, FunD.bindsN (ps := ["kind", "value"]) F fun _ _ _ _ _ _ us hl => match us, hl with | [_, _], _ => rfl⟩
theorem u_all_elements {K : PySem.W.Frag} (c : He.SaysD fa fn K) : ∃ fd, FnP K "all_elements" 9 fd ∧ Binds K fd ["shape"] [] := by
  obtain ⟨fd, F⟩ := c.def_ 2 (d := ⟨("all_elements", none), "all_elements", "all_elements", defArgs (top 9), defBody (top 9), defScope (top 9), [], []⟩) rfl
  exact ⟨fd, F, FunD.bindsN (ps := ["shape"]) F fun _ _ _ _ _ _ us hl => match us, hl with | [_], _ => rfl⟩
theorem u_size {K : PySem.W.Frag} (c : He.SaysD fa fn K) : ∃ fd, FnP K "size" 10 fd ∧ Binds K fd ["shape"] [] := by
  obtain ⟨fd, F⟩ := c.def_ 3 (d := ⟨("size", none), "size", "size", defArgs (top 10), defBody (top 10), defScope (top 10), [], []⟩) rfl
  exact ⟨fd, F, FunD.bindsN (ps := ["shape"]) F fun _ _ _ _ _ _ us hl => match us, hl with | [_], _ => rfl⟩
theorem u_paths {K : PySem.W.Frag} (c : He.SaysD fa fn K) : ∃ fd, FnP K "paths" 11 fd ∧ Binds K fd ["shape"] [] := by
  obtain ⟨fd, F⟩ := c.def_ 4 (d := ⟨("paths", none), "paths", "paths", defArgs (top 11), defBody (top 11), defScope (top 11), [], []⟩) rfl
  exact ⟨fd, F, FunD.bindsN (ps := ["shape"]) F fun _ _ _ _ _ _ us hl => match us, hl with | [_], _ => rfl⟩
theorem u_part {K : PySem.W.Frag} (c : He.SaysD fa fn K) : ∃ fd, FnP K "part" 12 fd ∧ Binds K fd ["shape", "path"] [] := by
  obtain ⟨fd, F⟩ := c.def_ 5 (d := ⟨("part", none), "part", "part", defArgs (top 12), defBody (top 12), defScope (top 12), [], []⟩) rfl
  exact ⟨fd, F, FunD.bindsN (ps := ["shape", "path"]) F fun _ _ _ _ _ _ us hl => match us, hl with | [_, _], _ => rfl⟩
theorem u_with_part {K : PySem.W.Frag} (c : He.SaysD fa fn K) : ∃ fd, FnP K "with_part" 13 fd ∧ Binds K fd ["shape", "path", "new"] [] := by
  obtain ⟨fd, F⟩ := c.def_ 6 (d := ⟨("with_part", none), "with_part", "with_part", defArgs (top 13), defBody (top 13), defScope (top 13), [], []⟩) rfl
  exact ⟨fd, F, FunD.bindsN (ps := ["shape", "path", "new"]) F fun _ _ _ _ _ _ us hl => match us, hl with | [_, _, _], _ => rfl⟩
theorem u_write_shape {K : PySem.W.Frag} (c : He.SaysD fa fn K) : ∃ fd, FnP K "write_shape" 14 fd ∧ Binds K fd ["shape"] [] := by
  obtain ⟨fd, F⟩ := c.def_ 7 (d := ⟨("write_shape", none), "write_shape", "write_shape", defArgs (top 14), defBody (top 14), defScope (top 14), [], []⟩) rfl
  exact ⟨fd, F, FunD.bindsN (ps := ["shape"]) F fun _ _ _ _ _ _ us hl => match us, hl with | [_], _ => rfl⟩
theorem u_read_shape {K : PySem.W.Frag} (c : He.SaysD fa fn K) : ∃ fd, FnP K "read_shape" 16 fd ∧ Binds K fd ["kind", "text"] [] := by
  obtain ⟨fd, F⟩ := c.def_ 8 (d := ⟨("read_shape", none), "read_shape", "read_shape", defArgs (top 16), defBody (top 16), defScope (top 16), [], []⟩) rfl
  exact ⟨fd, F, FunD.bindsN (ps := ["kind", "text"]) F fun _ _ _ _ _ _ us hl => match us, hl with | [_, _], _ => rfl⟩
theorem u__law_tape {K : PySem.W.Frag} (c : He.SaysD fa fn K) : ∃ fd, FnP K "_law_tape" 18 fd ∧ Binds K fd ["script"] [] := by
  obtain ⟨fd, F⟩ := c.def_ 9 (d := ⟨("_law_tape", none), "_law_tape", "_law_tape", defArgs (top 18), defBody (top 18), defScope (top 18), [], []⟩) rfl
  exact ⟨fd, F, FunD.bindsN (ps := ["script"]) F fun _ _ _ _ _ _ us hl => match us, hl with | [_], _ => rfl⟩
theorem u__law_take {K : PySem.W.Frag} (c : He.SaysD fa fn K) : ∃ fd, FnP K "_law_take" 19 fd ∧ Binds K fd ["tape", "many"] [] := by
  obtain ⟨fd, F⟩ := c.def_ 10 (d := ⟨("_law_take", none), "_law_take", "_law_take", defArgs (top 19), defBody (top 19), defScope (top 19), [], []⟩) rfl
  exact ⟨fd, F, FunD.bindsN (ps := ["tape", "many"]) F fun _ _ _ _ _ _ us hl => match us, hl with | [_, _], _ => rfl⟩
theorem u__law_is_integer {K : PySem.W.Frag} (c : He.SaysD fa fn K) : ∃ fd, FnP K "_law_is_integer" 20 fd ∧ Binds K fd ["actual"] [] := by
  obtain ⟨fd, F⟩ := c.def_ 11 (d := ⟨("_law_is_integer", none), "_law_is_integer", "_law_is_integer", defArgs (top 20), defBody (top 20), defScope (top 20), [], []⟩) rfl
  exact ⟨fd, F, FunD.bindsN (ps := ["actual"]) F fun _ _ _ _ _ _ us hl => match us, hl with | [_], _ => rfl⟩
theorem u__law_same_items {K : PySem.W.Frag} (c : He.SaysD fa fn K) : ∃ fd, FnP K "_law_same_items" 21 fd ∧ Binds K fd ["actual", "expected"] [] := by
  obtain ⟨fd, F⟩ := c.def_ 12 (d := ⟨("_law_same_items", none), "_law_same_items", "_law_same_items", defArgs (top 21), defBody (top 21), defScope (top 21), [], []⟩) rfl
  exact ⟨fd, F, FunD.bindsN (ps := ["actual", "expected"]) F fun _ _ _ _ _ _ us hl => match us, hl with | [_, _], _ => rfl⟩
theorem u__law_same {K : PySem.W.Frag} (c : He.SaysD fa fn K) : ∃ fd, FnP K "_law_same" 22 fd ∧ Binds K fd ["actual", "expected"] [] := by
  obtain ⟨fd, F⟩ := c.def_ 13 (d := ⟨("_law_same", none), "_law_same", "_law_same", defArgs (top 22), defBody (top 22), defScope (top 22), [], []⟩) rfl
  exact ⟨fd, F, FunD.bindsN (ps := ["actual", "expected"]) F fun _ _ _ _ _ _ us hl => match us, hl with | [_, _], _ => rfl⟩
theorem u__law_kind {K : PySem.W.Frag} (c : He.SaysD fa fn K) : ∃ fd, FnP K "_law_kind" 23 fd ∧ Binds K fd ["tape"] [] := by
  obtain ⟨fd, F⟩ := c.def_ 14 (d := ⟨("_law_kind", none), "_law_kind", "_law_kind", defArgs (top 23), defBody (top 23), defScope (top 23), [], []⟩) rfl
  exact ⟨fd, F, FunD.bindsN (ps := ["tape"]) F fun _ _ _ _ _ _ us hl => match us, hl with | [_], _ => rfl⟩
theorem u__law_shape {K : PySem.W.Frag} (c : He.SaysD fa fn K) : ∃ fd, FnP K "_law_shape" 24 fd ∧ Binds K fd ["tape", "kind", "count"] [] := by
  obtain ⟨fd, F⟩ := c.def_ 15 (d := ⟨("_law_shape", none), "_law_shape", "_law_shape", defArgs (top 24), defBody (top 24), defScope (top 24), [], []⟩) rfl
  exact ⟨fd, F, FunD.bindsN (ps := ["tape", "kind", "count"]) F fun _ _ _ _ _ _ us hl => match us, hl with | [_, _, _], _ => rfl⟩
theorem u__law_paths {K : PySem.W.Frag} (c : He.SaysD fa fn K) : ∃ fd, FnP K "_law_paths" 25 fd ∧ Binds K fd ["shape", "path"] [] := by
  obtain ⟨fd, F⟩ := c.def_ 16 (d := ⟨("_law_paths", none), "_law_paths", "_law_paths", defArgs (top 25), defBody (top 25), defScope (top 25), [], []⟩) rfl
  exact ⟨fd, F, FunD.bindsN (ps := ["shape", "path"]) F fun _ _ _ _ _ _ us hl => match us, hl with | [_, _], _ => rfl⟩
theorem u__law_part {K : PySem.W.Frag} (c : He.SaysD fa fn K) : ∃ fd, FnP K "_law_part" 26 fd ∧ Binds K fd ["shape", "path"] [] := by
  obtain ⟨fd, F⟩ := c.def_ 17 (d := ⟨("_law_part", none), "_law_part", "_law_part", defArgs (top 26), defBody (top 26), defScope (top 26), [], []⟩) rfl
  exact ⟨fd, F, FunD.bindsN (ps := ["shape", "path"]) F fun _ _ _ _ _ _ us hl => match us, hl with | [_, _], _ => rfl⟩
theorem u__law_text {K : PySem.W.Frag} (c : He.SaysD fa fn K) : ∃ fd, FnP K "_law_text" 27 fd ∧ Binds K fd ["shape"] [] := by
  obtain ⟨fd, F⟩ := c.def_ 18 (d := ⟨("_law_text", none), "_law_text", "_law_text", defArgs (top 27), defBody (top 27), defScope (top 27), [], []⟩) rfl
  exact ⟨fd, F, FunD.bindsN (ps := ["shape"]) F fun _ _ _ _ _ _ us hl => match us, hl with | [_], _ => rfl⟩
theorem u__law_read {K : PySem.W.Frag} (c : He.SaysD fa fn K) : ∃ fd, FnP K "_law_read" 28 fd ∧ Binds K fd ["kind", "text"] [] := by
  obtain ⟨fd, F⟩ := c.def_ 19 (d := ⟨("_law_read", none), "_law_read", "_law_read", defArgs (top 28), defBody (top 28), defScope (top 28), [], []⟩) rfl
  exact ⟨fd, F, FunD.bindsN (ps := ["kind", "text"]) F fun _ _ _ _ _ _ us hl => match us, hl with | [_, _], _ => rfl⟩
theorem u__law_try_part {K : PySem.W.Frag} (c : He.SaysD fa fn K) : ∃ fd, FnP K "_law_try_part" 29 fd ∧ Binds K fd ["shape", "path"] [] := by
  obtain ⟨fd, F⟩ := c.def_ 20 (d := ⟨("_law_try_part", none), "_law_try_part", "_law_try_part", defArgs (top 29), defBody (top 29), defScope (top 29), [], []⟩) rfl
  exact ⟨fd, F, FunD.bindsN (ps := ["shape", "path"]) F fun _ _ _ _ _ _ us hl => match us, hl with | [_, _], _ => rfl⟩
theorem u__law_try_with {K : PySem.W.Frag} (c : He.SaysD fa fn K) : ∃ fd, FnP K "_law_try_with" 30 fd ∧ Binds K fd ["shape", "path", "new"] [] := by
  obtain ⟨fd, F⟩ := c.def_ 21 (d := ⟨("_law_try_with", none), "_law_try_with", "_law_try_with", defArgs (top 30), defBody (top 30), defScope (top 30), [], []⟩) rfl
  exact ⟨fd, F, FunD.bindsN (ps := ["shape", "path", "new"]) F fun _ _ _ _ _ _ us hl => match us, hl with | [_, _, _], _ => rfl⟩
theorem u__law_with {K : PySem.W.Frag} (c : He.SaysD fa fn K) : ∃ fd, FnP K "_law_with" 31 fd ∧ Binds K fd ["shape", "path", "new"] [] := by
  obtain ⟨fd, F⟩ := c.def_ 22 (d := ⟨("_law_with", none), "_law_with", "_law_with", defArgs (top 31), defBody (top 31), defScope (top 31), [], []⟩) rfl
  exact ⟨fd, F, FunD.bindsN (ps := ["shape", "path", "new"]) F fun _ _ _ _ _ _ us hl => match us, hl with | [_, _, _], _ => rfl⟩
theorem u__law_bent {K : PySem.W.Frag} (c : He.SaysD fa fn K) : ∃ fd, FnP K "_law_bent" 32 fd ∧ Binds K fd ["tape", "text"] [] := by
  obtain ⟨fd, F⟩ := c.def_ 23 (d := ⟨("_law_bent", none), "_law_bent", "_law_bent", defArgs (top 32), defBody (top 32), defScope (top 32), [], []⟩) rfl
  exact ⟨fd, F, FunD.bindsN (ps := ["tape", "text"]) F fun _ _ _ _ _ _ us hl => match us, hl with | [_, _], _ => rfl⟩
theorem u__law_is {K : PySem.W.Frag} (c : He.SaysD fa fn K) : ∃ fd, FnP K "_law_is" 33 fd ∧ Binds K fd ["kind", "value"] [] := by
  obtain ⟨fd, F⟩ := c.def_ 24 (d := ⟨("_law_is", none), "_law_is", "_law_is", defArgs (top 33), defBody (top 33), defScope (top 33), [], []⟩) rfl
  exact ⟨fd, F, FunD.bindsN (ps := ["kind", "value"]) F fun _ _ _ _ _ _ us hl => match us, hl with | [_, _], _ => rfl⟩
theorem u__law_kind_right {K : PySem.W.Frag} (c : He.SaysD fa fn K) : ∃ fd, FnP K "_law_kind_right" 34 fd ∧ Binds K fd ["kind"] [] := by
  obtain ⟨fd, F⟩ := c.def_ 25 (d := ⟨("_law_kind_right", none), "_law_kind_right", "_law_kind_right", defArgs (top 34), defBody (top 34), defScope (top 34), [], []⟩) rfl
  exact ⟨fd, F, FunD.bindsN (ps := ["kind"]) F fun _ _ _ _ _ _ us hl => match us, hl with | [_], _ => rfl⟩
theorem u_law {K : PySem.W.Frag} (c : He.SaysD fa fn K) : ∃ fd, FnP K "law" 35 fd ∧ Binds K fd ["script"] [] := by
  obtain ⟨fd, F⟩ := c.def_ 26 (d := ⟨("law", none), "law", "law", defArgs (top 35), defBody (top 35), defScope (top 35), [], []⟩) rfl
  exact ⟨fd, F, FunD.bindsN (ps := ["script"]) F fun _ _ _ _ _ _ us hl => match us, hl with | [_], _ => rfl⟩
theorem u_ShapeReader_init {K : PySem.W.Frag} (c : He.SaysD fa fn K) : ∃ fd, FunD K "__init__" "ShapeReader.__init__" (defArgs (mth 15 0)) (defBody (mth 15 0)) (defScope (mth 15 0)) [] [] (He.ma K (clsA K [83, 104, 97, 112, 101, 82, 101, 97, 100, 101, 114]) (sOf [95, 95, 105, 110, 105, 116, 95, 95])) fd ∧ Binds K fd ["self", "kind", "text"] [] := by
  obtain ⟨fd, F⟩ := c.def_ 27 (d := ⟨(sOf [83, 104, 97, 112, 101, 82, 101, 97, 100, 101, 114], some (sOf [95, 95, 105, 110, 105, 116, 95, 95])), "__init__", "ShapeReader.__init__", defArgs (mth 15 0), defBody (mth 15 0), defScope (mth 15 0), [], []⟩) rfl
  exact ⟨fd, F, FunD.bindsN (ps := ["self", "kind", "text"]) F fun _ _ _ _ _ _ us hl => match us, hl with | [_, _, _], _ => rfl⟩
theorem u_ShapeReader_sign {K : PySem.W.Frag} (c : He.SaysD fa fn K) : ∃ fd, FunD K "sign" "ShapeReader.sign" (defArgs (mth 15 1)) (defBody (mth 15 1)) (defScope (mth 15 1)) [] [] (He.ma K (clsA K [83, 104, 97, 112, 101, 82, 101, 97, 100, 101, 114]) (sOf [115, 105, 103, 110])) fd ∧ Binds K fd ["self"] [] := by
  obtain ⟨fd, F⟩ := c.def_ 28 (d := ⟨(sOf [83, 104, 97, 112, 101, 82, 101, 97, 100, 101, 114], some (sOf [115, 105, 103, 110])), "sign", "ShapeReader.sign", defArgs (mth 15 1), defBody (mth 15 1), defScope (mth 15 1), [], []⟩) rfl
  exact ⟨fd, F, FunD.bindsN (ps := ["self"]) F fun _ _ _ _ _ _ us hl => match us, hl with | [_], _ => rfl⟩
theorem u_ShapeReader_take {K : PySem.W.Frag} (c : He.SaysD fa fn K) : ∃ fd, FunD K "take" "ShapeReader.take" (defArgs (mth 15 2)) (defBody (mth 15 2)) (defScope (mth 15 2)) [] [] (He.ma K (clsA K [83, 104, 97, 112, 101, 82, 101, 97, 100, 101, 114]) (sOf [116, 97, 107, 101])) fd ∧ Binds K fd ["self", "expected"] [] := by
  obtain ⟨fd, F⟩ := c.def_ 29 (d := ⟨(sOf [83, 104, 97, 112, 101, 82, 101, 97, 100, 101, 114], some (sOf [116, 97, 107, 101])), "take", "ShapeReader.take", defArgs (mth 15 2), defBody (mth 15 2), defScope (mth 15 2), [], []⟩) rfl
  exact ⟨fd, F, FunD.bindsN (ps := ["self", "expected"]) F fun _ _ _ _ _ _ us hl => match us, hl with | [_, _], _ => rfl⟩
theorem u_ShapeReader_shape {K : PySem.W.Frag} (c : He.SaysD fa fn K) : ∃ fd, FunD K "shape" "ShapeReader.shape" (defArgs (mth 15 3)) (defBody (mth 15 3)) (defScope (mth 15 3)) [] [] (He.ma K (clsA K [83, 104, 97, 112, 101, 82, 101, 97, 100, 101, 114]) (sOf [115, 104, 97, 112, 101])) fd ∧ Binds K fd ["self"] [] := by
  obtain ⟨fd, F⟩ := c.def_ 30 (d := ⟨(sOf [83, 104, 97, 112, 101, 82, 101, 97, 100, 101, 114], some (sOf [115, 104, 97, 112, 101])), "shape", "ShapeReader.shape", defArgs (mth 15 3), defBody (mth 15 3), defScope (mth 15 3), [], []⟩) rfl
  exact ⟨fd, F, FunD.bindsN (ps := ["self"]) F fun _ _ _ _ _ _ us hl => match us, hl with | [_], _ => rfl⟩
theorem u_ShapeReader_finish {K : PySem.W.Frag} (c : He.SaysD fa fn K) : ∃ fd, FunD K "finish" "ShapeReader.finish" (defArgs (mth 15 4)) (defBody (mth 15 4)) (defScope (mth 15 4)) [] [] (He.ma K (clsA K [83, 104, 97, 112, 101, 82, 101, 97, 100, 101, 114]) (sOf [102, 105, 110, 105, 115, 104])) fd ∧ Binds K fd ["self", "above", "done"] [] := by
  obtain ⟨fd, F⟩ := c.def_ 31 (d := ⟨(sOf [83, 104, 97, 112, 101, 82, 101, 97, 100, 101, 114], some (sOf [102, 105, 110, 105, 115, 104])), "finish", "ShapeReader.finish", defArgs (mth 15 4), defBody (mth 15 4), defScope (mth 15 4), [], []⟩) rfl
  exact ⟨fd, F, FunD.bindsN (ps := ["self", "above", "done"]) F fun _ _ _ _ _ _ us hl => match us, hl with | [_, _, _], _ => rfl⟩
theorem fc_of {K : PySem.W.Frag} {mg : Str → Option Value} {base : Heap} (X : K.In base) (G : base.Ns mainGlobals mg) (c : He.SaysD fa fn K) (c2 : ex K = true) : Fc K mg := ⟨He.free_ok X G (c.fact 27 (f := .free "abs") rfl),
  He.free_ok X G (c.fact 28 (f := .free "all") rfl),
  He.free_ok X G (c.fact 29 (f := .free "bool") rfl),
  He.free_ok X G (c.fact 30 (f := .free "dict") rfl),
  He.free_ok X G (c.fact 31 (f := .free "enumerate") rfl),
  He.free_ok X G (c.fact 32 (f := .free "int") rfl),
  He.free_ok X G (c.fact 33 (f := .free "isinstance") rfl),
  He.free_ok X G (c.fact 34 (f := .free "len") rfl),
  He.free_ok X G (c.fact 35 (f := .free "list") rfl),
  He.free_ok X G (c.fact 36 (f := .free "range") rfl),
  He.free_ok X G (c.fact 37 (f := .free "set") rfl),
  He.free_ok X G (c.fact 38 (f := .free "sorted") rfl),
  He.free_ok X G (c.fact 39 (f := .free "str") rfl),
  He.free_ok X G (c.fact 40 (f := .free "tuple") rfl),
  He.str_ok X G (c.fact 41 (f := .str "LETTERS" (sOf [97, 98, 99, 100, 101, 102, 103, 104, 105, 106, 107, 108, 109, 110, 111, 112, 113, 114, 115, 116, 117, 118, 119, 120, 121, 122])) rfl),
  ⟨(He.exc_ok (c.fact 42 (f := .exc (sOf [83, 97, 121, 69, 114, 114, 111, 114])) rfl)).1, (He.exc_ok (c.fact 42 (f := .exc (sOf [83, 97, 121, 69, 114, 114, 111, 114])) rfl)).2.1, (He.exc_ok (c.fact 42 (f := .exc (sOf [83, 97, 121, 69, 114, 114, 111, 114])) rfl)).2.2.1, (He.exc_ok (c.fact 42 (f := .exc (sOf [83, 97, 121, 69, 114, 114, 111, 114])) rfl)).2.2.2, He.glo_ok X G (c.fact 43 (f := .glo (sOf [83, 97, 121, 69, 114, 114, 111, 114])) rfl)⟩,
  ⟨(He.exc_ok (c.fact 44 (f := .exc (sOf [73, 110, 118, 97, 108, 105, 100, 75, 105, 110, 100])) rfl)).1, (He.exc_ok (c.fact 44 (f := .exc (sOf [73, 110, 118, 97, 108, 105, 100, 75, 105, 110, 100])) rfl)).2.1, (He.exc_ok (c.fact 44 (f := .exc (sOf [73, 110, 118, 97, 108, 105, 100, 75, 105, 110, 100])) rfl)).2.2.1, (He.exc_ok (c.fact 44 (f := .exc (sOf [73, 110, 118, 97, 108, 105, 100, 75, 105, 110, 100])) rfl)).2.2.2, He.glo_ok X G (c.fact 45 (f := .glo (sOf [73, 110, 118, 97, 108, 105, 100, 75, 105, 110, 100])) rfl)⟩,
  ⟨(He.exc_ok (c.fact 46 (f := .exc (sOf [73, 110, 118, 97, 108, 105, 100, 83, 104, 97, 112, 101])) rfl)).1, (He.exc_ok (c.fact 46 (f := .exc (sOf [73, 110, 118, 97, 108, 105, 100, 83, 104, 97, 112, 101])) rfl)).2.1, (He.exc_ok (c.fact 46 (f := .exc (sOf [73, 110, 118, 97, 108, 105, 100, 83, 104, 97, 112, 101])) rfl)).2.2.1, (He.exc_ok (c.fact 46 (f := .exc (sOf [73, 110, 118, 97, 108, 105, 100, 83, 104, 97, 112, 101])) rfl)).2.2.2, He.glo_ok X G (c.fact 47 (f := .glo (sOf [73, 110, 118, 97, 108, 105, 100, 83, 104, 97, 112, 101])) rfl)⟩,
  ⟨(He.exc_ok (c.fact 48 (f := .exc (sOf [78, 111, 83, 117, 99, 104, 69, 108, 101, 109, 101, 110, 116])) rfl)).1, (He.exc_ok (c.fact 48 (f := .exc (sOf [78, 111, 83, 117, 99, 104, 69, 108, 101, 109, 101, 110, 116])) rfl)).2.1, (He.exc_ok (c.fact 48 (f := .exc (sOf [78, 111, 83, 117, 99, 104, 69, 108, 101, 109, 101, 110, 116])) rfl)).2.2.1, (He.exc_ok (c.fact 48 (f := .exc (sOf [78, 111, 83, 117, 99, 104, 69, 108, 101, 109, 101, 110, 116])) rfl)).2.2.2, He.glo_ok X G (c.fact 49 (f := .glo (sOf [78, 111, 83, 117, 99, 104, 69, 108, 101, 109, 101, 110, 116])) rfl)⟩,
  (by intro p hp; simp only [List.mem_cons, List.not_mem_nil, or_false] at hp; rcases hp with rfl | rfl | rfl | rfl; exact He.exm_ok (c.fact 50 (f := .exm (sOf [83, 97, 121, 69, 114, 114, 111, 114]) (sOf [73, 110, 118, 97, 108, 105, 100, 75, 105, 110, 100]) false) rfl); exact He.exm_ok (c.fact 51 (f := .exm (sOf [73, 110, 118, 97, 108, 105, 100, 75, 105, 110, 100]) (sOf [73, 110, 118, 97, 108, 105, 100, 75, 105, 110, 100]) true) rfl); exact He.exm_ok (c.fact 52 (f := .exm (sOf [73, 110, 118, 97, 108, 105, 100, 83, 104, 97, 112, 101]) (sOf [73, 110, 118, 97, 108, 105, 100, 75, 105, 110, 100]) false) rfl); exact He.exm_ok (c.fact 53 (f := .exm (sOf [78, 111, 83, 117, 99, 104, 69, 108, 101, 109, 101, 110, 116]) (sOf [73, 110, 118, 97, 108, 105, 100, 75, 105, 110, 100]) false) rfl)),
  (by intro p hp; simp only [List.mem_cons, List.not_mem_nil, or_false] at hp; rcases hp with rfl | rfl | rfl | rfl; exact He.exm_ok (c.fact 54 (f := .exm (sOf [83, 97, 121, 69, 114, 114, 111, 114]) (sOf [73, 110, 118, 97, 108, 105, 100, 83, 104, 97, 112, 101]) false) rfl); exact He.exm_ok (c.fact 55 (f := .exm (sOf [73, 110, 118, 97, 108, 105, 100, 75, 105, 110, 100]) (sOf [73, 110, 118, 97, 108, 105, 100, 83, 104, 97, 112, 101]) false) rfl); exact He.exm_ok (c.fact 56 (f := .exm (sOf [73, 110, 118, 97, 108, 105, 100, 83, 104, 97, 112, 101]) (sOf [73, 110, 118, 97, 108, 105, 100, 83, 104, 97, 112, 101]) true) rfl); exact He.exm_ok (c.fact 57 (f := .exm (sOf [78, 111, 83, 117, 99, 104, 69, 108, 101, 109, 101, 110, 116]) (sOf [73, 110, 118, 97, 108, 105, 100, 83, 104, 97, 112, 101]) false) rfl)),
  (by intro p hp; simp only [List.mem_cons, List.not_mem_nil, or_false] at hp; rcases hp with rfl | rfl | rfl | rfl; exact He.exm_ok (c.fact 58 (f := .exm (sOf [83, 97, 121, 69, 114, 114, 111, 114]) (sOf [78, 111, 83, 117, 99, 104, 69, 108, 101, 109, 101, 110, 116]) false) rfl); exact He.exm_ok (c.fact 59 (f := .exm (sOf [73, 110, 118, 97, 108, 105, 100, 75, 105, 110, 100]) (sOf [78, 111, 83, 117, 99, 104, 69, 108, 101, 109, 101, 110, 116]) false) rfl); exact He.exm_ok (c.fact 60 (f := .exm (sOf [73, 110, 118, 97, 108, 105, 100, 83, 104, 97, 112, 101]) (sOf [78, 111, 83, 117, 99, 104, 69, 108, 101, 109, 101, 110, 116]) false) rfl); exact He.exm_ok (c.fact 61 (f := .exm (sOf [78, 111, 83, 117, 99, 104, 69, 108, 101, 109, 101, 110, 116]) (sOf [78, 111, 83, 117, 99, 104, 69, 108, 101, 109, 101, 110, 116]) true) rfl)),
  ⟨GH.excCB_ok (ex_at c2 0), GH.kitB_ok' (ex_at c2 1), He.glo_ok X G (c.fact 43 (f := .glo (sOf [83, 97, 121, 69, 114, 114, 111, 114])) rfl)⟩,
  He.cls_ok (c.fact 62 (f := .cls (sOf [83, 104, 97, 112, 101, 82, 101, 97, 100, 101, 114])) rfl),
  He.mkr_ok (c.fact 63 (f := .mkr (sOf [83, 104, 97, 112, 101, 82, 101, 97, 100, 101, 114])) rfl),
  He.glo_ok X G (c.fact 64 (f := .glo (sOf [83, 104, 97, 112, 101, 82, 101, 97, 100, 101, 114])) rfl),
  He.noat_ok (c.fact 65 (f := .noat (sOf [83, 104, 97, 112, 101, 82, 101, 97, 100, 101, 114]) (sOf [97, 116])) rfl),
  He.noat_ok (c.fact 66 (f := .noat (sOf [83, 104, 97, 112, 101, 82, 101, 97, 100, 101, 114]) (sOf [108, 97, 98, 101, 108, 115])) rfl),
  He.noat_ok (c.fact 67 (f := .noat (sOf [83, 104, 97, 112, 101, 82, 101, 97, 100, 101, 114]) (sOf [116, 101, 120, 116])) rfl),
  He.noat_ok (c.fact 68 (f := .noat (sOf [83, 104, 97, 112, 101, 82, 101, 97, 100, 101, 114]) (sOf [119, 97, 121, 115])) rfl)⟩
theorem all_of {P : Program} {w : World} {K : PySem.W.Frag} {mg : Str → Option Value} {base hh : Heap} (X : K.In hh) (G : hh.Ns mainGlobals mg) (c : He.SaysD fa fn K) (c2 : ex K = true) : ∀ k, AllK P w K mg base sig (2 * k) (lev D k) ∧ AllM P w K mg base msig 27 (2 * k) (lev D k) := by
  have fc := fc_of X G c c2
  obtain ⟨fd0, u0, b0⟩ := u_check_kind c
  have g0 := He.glo_ok X G (c.fact 0 (f := .glo "check_kind") rfl)
  obtain ⟨fd1, u1, b1⟩ := u_is_shape c
  have g1 := He.glo_ok X G (c.fact 1 (f := .glo "is_shape") rfl)
  obtain ⟨fd2, u2, b2⟩ := u_all_elements c
  have g2 := He.glo_ok X G (c.fact 2 (f := .glo "all_elements") rfl)
  obtain ⟨fd3, u3, b3⟩ := u_size c
  have g3 := He.glo_ok X G (c.fact 3 (f := .glo "size") rfl)
  obtain ⟨fd4, u4, b4⟩ := u_paths c
  have g4 := He.glo_ok X G (c.fact 4 (f := .glo "paths") rfl)
  obtain ⟨fd5, u5, b5⟩ := u_part c
  have g5 := He.glo_ok X G (c.fact 5 (f := .glo "part") rfl)
  obtain ⟨fd6, u6, b6⟩ := u_with_part c
  have g6 := He.glo_ok X G (c.fact 6 (f := .glo "with_part") rfl)
  obtain ⟨fd7, u7, b7⟩ := u_write_shape c
  have g7 := He.glo_ok X G (c.fact 7 (f := .glo "write_shape") rfl)
  obtain ⟨fd8, u8, b8⟩ := u_read_shape c
  have g8 := He.glo_ok X G (c.fact 8 (f := .glo "read_shape") rfl)
  obtain ⟨fd9, u9, b9⟩ := u__law_tape c
  have g9 := He.glo_ok X G (c.fact 9 (f := .glo "_law_tape") rfl)
  obtain ⟨fd10, u10, b10⟩ := u__law_take c
  have g10 := He.glo_ok X G (c.fact 10 (f := .glo "_law_take") rfl)
  obtain ⟨fd11, u11, b11⟩ := u__law_is_integer c
  have g11 := He.glo_ok X G (c.fact 11 (f := .glo "_law_is_integer") rfl)
  obtain ⟨fd12, u12, b12⟩ := u__law_same_items c
  have g12 := He.glo_ok X G (c.fact 12 (f := .glo "_law_same_items") rfl)
  obtain ⟨fd13, u13, b13⟩ := u__law_same c
  have g13 := He.glo_ok X G (c.fact 13 (f := .glo "_law_same") rfl)
  obtain ⟨fd14, u14, b14⟩ := u__law_kind c
  have g14 := He.glo_ok X G (c.fact 14 (f := .glo "_law_kind") rfl)
  obtain ⟨fd15, u15, b15⟩ := u__law_shape c
  have g15 := He.glo_ok X G (c.fact 15 (f := .glo "_law_shape") rfl)
  obtain ⟨fd16, u16, b16⟩ := u__law_paths c
  have g16 := He.glo_ok X G (c.fact 16 (f := .glo "_law_paths") rfl)
  obtain ⟨fd17, u17, b17⟩ := u__law_part c
  have g17 := He.glo_ok X G (c.fact 17 (f := .glo "_law_part") rfl)
  obtain ⟨fd18, u18, b18⟩ := u__law_text c
  have g18 := He.glo_ok X G (c.fact 18 (f := .glo "_law_text") rfl)
  obtain ⟨fd19, u19, b19⟩ := u__law_read c
  have g19 := He.glo_ok X G (c.fact 19 (f := .glo "_law_read") rfl)
  obtain ⟨fd20, u20, b20⟩ := u__law_try_part c
  have g20 := He.glo_ok X G (c.fact 20 (f := .glo "_law_try_part") rfl)
  obtain ⟨fd21, u21, b21⟩ := u__law_try_with c
  have g21 := He.glo_ok X G (c.fact 21 (f := .glo "_law_try_with") rfl)
  obtain ⟨fd22, u22, b22⟩ := u__law_with c
  have g22 := He.glo_ok X G (c.fact 22 (f := .glo "_law_with") rfl)
  obtain ⟨fd23, u23, b23⟩ := u__law_bent c
  have g23 := He.glo_ok X G (c.fact 23 (f := .glo "_law_bent") rfl)
  obtain ⟨fd24, u24, b24⟩ := u__law_is c
  have g24 := He.glo_ok X G (c.fact 24 (f := .glo "_law_is") rfl)
  obtain ⟨fd25, u25, b25⟩ := u__law_kind_right c
  have g25 := He.glo_ok X G (c.fact 25 (f := .glo "_law_kind_right") rfl)
  obtain ⟨fd26, u26, b26⟩ := u_law c
  have g26 := He.glo_ok X G (c.fact 26 (f := .glo "law") rfl)
  obtain ⟨fd27, u27, b27⟩ := u_ShapeReader_init c
  have g27 := He.meth_ok (c.fact 69 (f := .meth (sOf [83, 104, 97, 112, 101, 82, 101, 97, 100, 101, 114]) (sOf [95, 95, 105, 110, 105, 116, 95, 95])) rfl)
  obtain ⟨fd28, u28, b28⟩ := u_ShapeReader_sign c
  have g28 := He.meth_ok (c.fact 70 (f := .meth (sOf [83, 104, 97, 112, 101, 82, 101, 97, 100, 101, 114]) (sOf [115, 105, 103, 110])) rfl)
  obtain ⟨fd29, u29, b29⟩ := u_ShapeReader_take c
  have g29 := He.meth_ok (c.fact 71 (f := .meth (sOf [83, 104, 97, 112, 101, 82, 101, 97, 100, 101, 114]) (sOf [116, 97, 107, 101])) rfl)
  obtain ⟨fd30, u30, b30⟩ := u_ShapeReader_shape c
  have g30 := He.meth_ok (c.fact 72 (f := .meth (sOf [83, 104, 97, 112, 101, 82, 101, 97, 100, 101, 114]) (sOf [115, 104, 97, 112, 101])) rfl)
  obtain ⟨fd31, u31, b31⟩ := u_ShapeReader_finish c
  have g31 := He.meth_ok (c.fact 73 (f := .meth (sOf [83, 104, 97, 112, 101, 82, 101, 97, 100, 101, 114]) (sOf [102, 105, 110, 105, 115, 104])) rfl)
  refine levels2 ?_ ?_ ?_
  · intro j x ps e
    match j, e with
    | 0, e => exact (by have e : some (("check_kind" : Str), (["kind"] : List Str)) = some (x, ps) := e; cases e; exact ⟨g0, u0.kp, fd0, b0⟩)
    | 1, e => exact (by have e : some (("is_shape" : Str), (["kind", "value"] : List Str)) = some (x, ps) := e; cases e; exact ⟨g1, u1.kp, fd1, b1⟩)
    | 2, e => exact (by have e : some (("all_elements" : Str), (["shape"] : List Str)) = some (x, ps) := e; cases e; exact ⟨g2, u2.kp, fd2, b2⟩)
    | 3, e => exact (by have e : some (("size" : Str), (["shape"] : List Str)) = some (x, ps) := e; cases e; exact ⟨g3, u3.kp, fd3, b3⟩)
    | 4, e => exact (by have e : some (("paths" : Str), (["shape"] : List Str)) = some (x, ps) := e; cases e; exact ⟨g4, u4.kp, fd4, b4⟩)
    | 5, e => exact (by have e : some (("part" : Str), (["shape", "path"] : List Str)) = some (x, ps) := e; cases e; exact ⟨g5, u5.kp, fd5, b5⟩)
    | 6, e => exact (by have e : some (("with_part" : Str), (["shape", "path", "new"] : List Str)) = some (x, ps) := e; cases e; exact ⟨g6, u6.kp, fd6, b6⟩)
    | 7, e => exact (by have e : some (("write_shape" : Str), (["shape"] : List Str)) = some (x, ps) := e; cases e; exact ⟨g7, u7.kp, fd7, b7⟩)
    | 8, e => exact (by have e : some (("read_shape" : Str), (["kind", "text"] : List Str)) = some (x, ps) := e; cases e; exact ⟨g8, u8.kp, fd8, b8⟩)
    | 9, e => exact (by have e : some (("_law_tape" : Str), (["script"] : List Str)) = some (x, ps) := e; cases e; exact ⟨g9, u9.kp, fd9, b9⟩)
    | 10, e => exact (by have e : some (("_law_take" : Str), (["tape", "many"] : List Str)) = some (x, ps) := e; cases e; exact ⟨g10, u10.kp, fd10, b10⟩)
    | 11, e => exact (by have e : some (("_law_is_integer" : Str), (["actual"] : List Str)) = some (x, ps) := e; cases e; exact ⟨g11, u11.kp, fd11, b11⟩)
    | 12, e => exact (by have e : some (("_law_same_items" : Str), (["actual", "expected"] : List Str)) = some (x, ps) := e; cases e; exact ⟨g12, u12.kp, fd12, b12⟩)
    | 13, e => exact (by have e : some (("_law_same" : Str), (["actual", "expected"] : List Str)) = some (x, ps) := e; cases e; exact ⟨g13, u13.kp, fd13, b13⟩)
    | 14, e => exact (by have e : some (("_law_kind" : Str), (["tape"] : List Str)) = some (x, ps) := e; cases e; exact ⟨g14, u14.kp, fd14, b14⟩)
    | 15, e => exact (by have e : some (("_law_shape" : Str), (["tape", "kind", "count"] : List Str)) = some (x, ps) := e; cases e; exact ⟨g15, u15.kp, fd15, b15⟩)
    | 16, e => exact (by have e : some (("_law_paths" : Str), (["shape", "path"] : List Str)) = some (x, ps) := e; cases e; exact ⟨g16, u16.kp, fd16, b16⟩)
    | 17, e => exact (by have e : some (("_law_part" : Str), (["shape", "path"] : List Str)) = some (x, ps) := e; cases e; exact ⟨g17, u17.kp, fd17, b17⟩)
    | 18, e => exact (by have e : some (("_law_text" : Str), (["shape"] : List Str)) = some (x, ps) := e; cases e; exact ⟨g18, u18.kp, fd18, b18⟩)
    | 19, e => exact (by have e : some (("_law_read" : Str), (["kind", "text"] : List Str)) = some (x, ps) := e; cases e; exact ⟨g19, u19.kp, fd19, b19⟩)
    | 20, e => exact (by have e : some (("_law_try_part" : Str), (["shape", "path"] : List Str)) = some (x, ps) := e; cases e; exact ⟨g20, u20.kp, fd20, b20⟩)
    | 21, e => exact (by have e : some (("_law_try_with" : Str), (["shape", "path", "new"] : List Str)) = some (x, ps) := e; cases e; exact ⟨g21, u21.kp, fd21, b21⟩)
    | 22, e => exact (by have e : some (("_law_with" : Str), (["shape", "path", "new"] : List Str)) = some (x, ps) := e; cases e; exact ⟨g22, u22.kp, fd22, b22⟩)
    | 23, e => exact (by have e : some (("_law_bent" : Str), (["tape", "text"] : List Str)) = some (x, ps) := e; cases e; exact ⟨g23, u23.kp, fd23, b23⟩)
    | 24, e => exact (by have e : some (("_law_is" : Str), (["kind", "value"] : List Str)) = some (x, ps) := e; cases e; exact ⟨g24, u24.kp, fd24, b24⟩)
    | 25, e => exact (by have e : some (("_law_kind_right" : Str), (["kind"] : List Str)) = some (x, ps) := e; cases e; exact ⟨g25, u25.kp, fd25, b25⟩)
    | 26, e => exact (by have e : some (("law" : Str), (["script"] : List Str)) = some (x, ps) := e; cases e; exact ⟨g26, u26.kp, fd26, b26⟩)
    | n + 27, e => exact (by have e : (none : Option (Str × List Str)) = some (x, ps) := e; cases e)
  · intro j c1 m1 ps e
    match j, e with
    | 0, e => exact (by have e : some (([83, 104, 97, 112, 101, 82, 101, 97, 100, 101, 114] : Tx), ([95, 95, 105, 110, 105, 116, 95, 95] : Tx), (["self", "kind", "text"] : List Str)) = some (c1, m1, ps) := e; cases e; exact ⟨g27, fd27, b27⟩)
    | 1, e => exact (by have e : some (([83, 104, 97, 112, 101, 82, 101, 97, 100, 101, 114] : Tx), ([115, 105, 103, 110] : Tx), (["self"] : List Str)) = some (c1, m1, ps) := e; cases e; exact ⟨g28, fd28, b28⟩)
    | 2, e => exact (by have e : some (([83, 104, 97, 112, 101, 82, 101, 97, 100, 101, 114] : Tx), ([116, 97, 107, 101] : Tx), (["self", "expected"] : List Str)) = some (c1, m1, ps) := e; cases e; exact ⟨g29, fd29, b29⟩)
    | 3, e => exact (by have e : some (([83, 104, 97, 112, 101, 82, 101, 97, 100, 101, 114] : Tx), ([115, 104, 97, 112, 101] : Tx), (["self"] : List Str)) = some (c1, m1, ps) := e; cases e; exact ⟨g30, fd30, b30⟩)
    | 4, e => exact (by have e : some (([83, 104, 97, 112, 101, 82, 101, 97, 100, 101, 114] : Tx), ([102, 105, 110, 105, 115, 104] : Tx), (["self", "above", "done"] : List Str)) = some (c1, m1, ps) := e; cases e; exact ⟨g31, fd31, b31⟩)
    | n + 5, e => exact (by have e : (none : Option (Tx × Tx × List Str)) = some (c1, m1, ps) := e; cases e)
  · intro k Γ F M
    refine ⟨?_, ?_⟩
    · intro j x ps e
      match j, e with
      | 0, e => exact (by have e : some (("check_kind" : Str), (["kind"] : List Str)) = some (x, ps) := e; cases e; exact ⟨⟨fd0, k_check_kind F M fc u0, b0⟩, g0, u0.kp⟩)
      | 1, e => exact (by have e : some (("is_shape" : Str), (["kind", "value"] : List Str)) = some (x, ps) := e; cases e; exact ⟨⟨fd1, k_is_shape F M fc u1, b1⟩, g1, u1.kp⟩)
      | 2, e => exact (by have e : some (("all_elements" : Str), (["shape"] : List Str)) = some (x, ps) := e; cases e; exact ⟨⟨fd2, k_all_elements F M fc u2, b2⟩, g2, u2.kp⟩)
      | 3, e => exact (by have e : some (("size" : Str), (["shape"] : List Str)) = some (x, ps) := e; cases e; exact ⟨⟨fd3, k_size F M fc u3, b3⟩, g3, u3.kp⟩)
      | 4, e => exact (by have e : some (("paths" : Str), (["shape"] : List Str)) = some (x, ps) := e; cases e; exact ⟨⟨fd4, k_paths F M fc u4, b4⟩, g4, u4.kp⟩)
      | 5, e => exact (by have e : some (("part" : Str), (["shape", "path"] : List Str)) = some (x, ps) := e; cases e; exact ⟨⟨fd5, k_part F M fc u5, b5⟩, g5, u5.kp⟩)
      | 6, e => exact (by have e : some (("with_part" : Str), (["shape", "path", "new"] : List Str)) = some (x, ps) := e; cases e; exact ⟨⟨fd6, k_with_part F M fc u6, b6⟩, g6, u6.kp⟩)
      | 7, e => exact (by have e : some (("write_shape" : Str), (["shape"] : List Str)) = some (x, ps) := e; cases e; exact ⟨⟨fd7, k_write_shape F M fc u7, b7⟩, g7, u7.kp⟩)
      | 8, e => exact (by have e : some (("read_shape" : Str), (["kind", "text"] : List Str)) = some (x, ps) := e; cases e; exact ⟨⟨fd8, k_read_shape F M fc u8, b8⟩, g8, u8.kp⟩)
      | 9, e => exact (by have e : some (("_law_tape" : Str), (["script"] : List Str)) = some (x, ps) := e; cases e; exact ⟨⟨fd9, k__law_tape F M fc u9, b9⟩, g9, u9.kp⟩)
      | 10, e => exact (by have e : some (("_law_take" : Str), (["tape", "many"] : List Str)) = some (x, ps) := e; cases e; exact ⟨⟨fd10, k__law_take F M fc u10, b10⟩, g10, u10.kp⟩)
      | 11, e => exact (by have e : some (("_law_is_integer" : Str), (["actual"] : List Str)) = some (x, ps) := e; cases e; exact ⟨⟨fd11, k__law_is_integer F M fc u11, b11⟩, g11, u11.kp⟩)
      | 12, e => exact (by have e : some (("_law_same_items" : Str), (["actual", "expected"] : List Str)) = some (x, ps) := e; cases e; exact ⟨⟨fd12, k__law_same_items F M fc u12, b12⟩, g12, u12.kp⟩)
      | 13, e => exact (by have e : some (("_law_same" : Str), (["actual", "expected"] : List Str)) = some (x, ps) := e; cases e; exact ⟨⟨fd13, k__law_same F M fc u13, b13⟩, g13, u13.kp⟩)
      | 14, e => exact (by have e : some (("_law_kind" : Str), (["tape"] : List Str)) = some (x, ps) := e; cases e; exact ⟨⟨fd14, k__law_kind F M fc u14, b14⟩, g14, u14.kp⟩)
      | 15, e => exact (by have e : some (("_law_shape" : Str), (["tape", "kind", "count"] : List Str)) = some (x, ps) := e; cases e; exact ⟨⟨fd15, k__law_shape F M fc u15, b15⟩, g15, u15.kp⟩)
      | 16, e => exact (by have e : some (("_law_paths" : Str), (["shape", "path"] : List Str)) = some (x, ps) := e; cases e; exact ⟨⟨fd16, k__law_paths F M fc u16, b16⟩, g16, u16.kp⟩)
      | 17, e => exact (by have e : some (("_law_part" : Str), (["shape", "path"] : List Str)) = some (x, ps) := e; cases e; exact ⟨⟨fd17, k__law_part F M fc u17, b17⟩, g17, u17.kp⟩)
      | 18, e => exact (by have e : some (("_law_text" : Str), (["shape"] : List Str)) = some (x, ps) := e; cases e; exact ⟨⟨fd18, k__law_text F M fc u18, b18⟩, g18, u18.kp⟩)
      | 19, e => exact (by have e : some (("_law_read" : Str), (["kind", "text"] : List Str)) = some (x, ps) := e; cases e; exact ⟨⟨fd19, k__law_read F M fc u19, b19⟩, g19, u19.kp⟩)
      | 20, e => exact (by have e : some (("_law_try_part" : Str), (["shape", "path"] : List Str)) = some (x, ps) := e; cases e; exact ⟨⟨fd20, k__law_try_part F M fc u20, b20⟩, g20, u20.kp⟩)
      | 21, e => exact (by have e : some (("_law_try_with" : Str), (["shape", "path", "new"] : List Str)) = some (x, ps) := e; cases e; exact ⟨⟨fd21, k__law_try_with F M fc u21, b21⟩, g21, u21.kp⟩)
      | 22, e => exact (by have e : some (("_law_with" : Str), (["shape", "path", "new"] : List Str)) = some (x, ps) := e; cases e; exact ⟨⟨fd22, k__law_with F M fc u22, b22⟩, g22, u22.kp⟩)
      | 23, e => exact (by have e : some (("_law_bent" : Str), (["tape", "text"] : List Str)) = some (x, ps) := e; cases e; exact ⟨⟨fd23, k__law_bent F M fc u23, b23⟩, g23, u23.kp⟩)
      | 24, e => exact (by have e : some (("_law_is" : Str), (["kind", "value"] : List Str)) = some (x, ps) := e; cases e; exact ⟨⟨fd24, k__law_is F M fc u24, b24⟩, g24, u24.kp⟩)
      | 25, e => exact (by have e : some (("_law_kind_right" : Str), (["kind"] : List Str)) = some (x, ps) := e; cases e; exact ⟨⟨fd25, k__law_kind_right F M fc u25, b25⟩, g25, u25.kp⟩)
      | 26, e => exact (by have e : some (("law" : Str), (["script"] : List Str)) = some (x, ps) := e; cases e; exact ⟨⟨fd26, k_law F M fc u26, b26⟩, g26, u26.kp⟩)
      | n + 27, e => exact (by have e : (none : Option (Str × List Str)) = some (x, ps) := e; cases e)
    · intro j c1 m1 ps e
      match j, e with
      | 0, e => exact (by have e : some (([83, 104, 97, 112, 101, 82, 101, 97, 100, 101, 114] : Tx), ([95, 95, 105, 110, 105, 116, 95, 95] : Tx), (["self", "kind", "text"] : List Str)) = some (c1, m1, ps) := e; cases e; exact ⟨⟨fd27, k_ShapeReader_init F M fc u27, b27⟩, g27⟩)
      | 1, e => exact (by have e : some (([83, 104, 97, 112, 101, 82, 101, 97, 100, 101, 114] : Tx), ([115, 105, 103, 110] : Tx), (["self"] : List Str)) = some (c1, m1, ps) := e; cases e; exact ⟨⟨fd28, k_ShapeReader_sign F M fc u28, b28⟩, g28⟩)
      | 2, e => exact (by have e : some (([83, 104, 97, 112, 101, 82, 101, 97, 100, 101, 114] : Tx), ([116, 97, 107, 101] : Tx), (["self", "expected"] : List Str)) = some (c1, m1, ps) := e; cases e; exact ⟨⟨fd29, k_ShapeReader_take F M fc u29, b29⟩, g29⟩)
      | 3, e => exact (by have e : some (([83, 104, 97, 112, 101, 82, 101, 97, 100, 101, 114] : Tx), ([115, 104, 97, 112, 101] : Tx), (["self"] : List Str)) = some (c1, m1, ps) := e; cases e; exact ⟨⟨fd30, k_ShapeReader_shape F M fc u30, b30⟩, g30⟩)
      | 4, e => exact (by have e : some (([83, 104, 97, 112, 101, 82, 101, 97, 100, 101, 114] : Tx), ([102, 105, 110, 105, 115, 104] : Tx), (["self", "above", "done"] : List Str)) = some (c1, m1, ps) := e; cases e; exact ⟨⟨fd31, k_ShapeReader_finish F M fc u31, b31⟩, g31⟩)
      | n + 5, e => exact (by have e : (none : Option (Tx × Tx × List Str)) = some (c1, m1, ps) := e; cases e)
theorem facts {P : Program} {w : World} {K : PySem.W.Frag} {h : Heap} {mg : Str → Option Value} {f : Addr} (X : K.In h) (G : h.Ns mainGlobals mg) (hfa : mg ("law" : Str) = some (.ref f)) (c : He.SaysD fa fn K) (c2 : ex K = true) :
    ∃ fd : FuncData, (∀ (s : Shared) (v : Value), BindsTo s fd ⟨[v], []⟩ [("script", v)]) ∧ ∀ base : Heap, K.In base → base.Ns mainGlobals mg → FnOk P w K mg base (CXA P) 120 f fd ["script"] (spG K (lev D 60 26) 1) := by
  obtain ⟨fd, F, b⟩ := u_law c
  have g := He.glo_ok X G (c.fact 26 (f := .glo "law") rfl)
  have e := hfa.symm.trans g
  cases e
  have b' := FunD.bindsA (ps := ["script"]) F fun _ _ _ _ _ _ us hl => match us, hl with | [_], _ => rfl
  refine ⟨fd, fun s v => b' s [v] rfl, fun base X2 G2 => ?_⟩
  exact fn_cxa (k_law (all_of X2 G2 c c2 59).1 (all_of X2 G2 c c2 59).2 (fc_of X2 G2 c c2) F)
end L01
open PySem PySem.W PySem.Calls PyProof.Rows
theorem PySem.Challenge.cw_grovehouse_k01_shapes_and_their_texts_holds : PySem.Challenge.rw_grovehouse_k01_shapes_and_their_texts.Holds := by
  w_on; o_law
  refine HandSHeadRun.head_any (r := OpenLaw.row PySem.Challenge.rw_grovehouse_k01_shapes_and_their_texts) (q := view (OpenLaw.row PySem.Challenge.rw_grovehouse_k01_shapes_and_their_texts).prog [35]) (H := L01.hk) (ob := L01.ob) (M := 3000) (loose := L01.nm) (d := HandSHeadRun.topDef (OpenLaw.row PySem.Challenge.rw_grovehouse_k01_shapes_and_their_texts).prog 35) (kwd := []) L01.ob_eq
    (by kernel_rfl) (fun s => by kernel_rfl) L01.run (by kernel_rfl) (by kernel_rfl) (by kernel_rfl) (by rfl) (by first | assumption | decide +kernel) (by decide +kernel) ⟨rfl, rfl, rfl, rfl, rfl, by decide +kernel⟩ ?hw ?hc
  case hw => w_witness2
  case hc =>
    refine L2.walk_ofE (l := PySem.Challenge.rw_grovehouse_k01_shapes_and_their_texts) (n := 63) (k := 120) (x := "script") (CX := GH.CXA (PySem.Challenge.rw_grovehouse_k01_shapes_and_their_texts).prog) rfl (by decide) (by kernel_rfl) ⟨rfl, by decide, by decide⟩ ?F (fun H s e s' z => GH.cxa_none H s e s' z)
    intro w mg fa h Y G hmg0
    obtain ⟨K, KX, c⟩ := Y
    have hmg : mg ("law" : PySem.Str) = some (.ref fa) := by
      have e : (HandSHeadRun.topDef (OpenLaw.row PySem.Challenge.rw_grovehouse_k01_shapes_and_their_texts).prog 35).name = ("law" : PySem.Str) := by kernel_rfl
      rw [← e]
      exact hmg0
    obtain ⟨fd, hb, hF⟩ := L01.facts (P := (PySem.Challenge.rw_grovehouse_k01_shapes_and_their_texts).prog) (w := w) KX G hmg c.t.d c.more
    exact ⟨K, fd, _, KX, hb, fun H a ns hl hO hS => GH.sp_law hO hS (L01.law_true ns hl), hF⟩
