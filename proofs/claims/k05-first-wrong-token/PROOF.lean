import PyProof.Rows.All
import Wide.All
import OpenK.AllK
import Wide.FinOn
import HandS.ForMost
import HandS.Exc
import HandS.TryOnly
import HandS.ExcOwn
import HandS.WordsExc
import HandS.Defaults
import HandS.HeadHook1
import HandS.TupAny
import HandS.Style
import HandS.Conv
import HandS.Zip
import HandS.IsInst
import HandS.Flow
import HandS.DictTup
import HandS.TryMany
import HandS.Lambda
import HandS.DictComp
import HandS.Strs
import HandS.SetKeys
import HandS.SortKw
import HandS.ExcInit
import HandS.Nested
import HandS.Walk
import HandS.CallSlots
import PyProof.P3In
import PyProof.P3Eq
import KE.SortData
import HandS.HeadEnd
import KE.GoesMore
import HandS.Text
import HandS.Codes
import HandS.SetFor
import HandS.ExcIs
import HandS.HeadHook4
import HandS.ExcField
import HandS.RaiseMore
import PySem.Challenge.RW_grovehouse_k05_first_wrong_token
import KE.KStateDown
import Lean
import HandS.Base
import HandS.Call
import HandS.Ends
import HandS.More
import HandS.Words
import HandS.Head0
import HandS.Head1
import HandS.Head2
import HandS.HeadHook2
import HandS.HeadHook3
set_option Elab.async false
set_option linter.all false
set_option maxRecDepth 100000
set_option maxHeartbeats 1000000
/-! Values without a heap for tuples and for lists that nobody writes; a small heap of own objects; how both lie in the abstract heap of the hand layer. -/
set_option autoImplicit false
namespace GH
open PySem PySem.Spec PyProof.Rows L2

def sOf (x : List Nat) : Str := ⟨x.toArray⟩
theorem sOf_inj {x y : List Nat} (h : sOf x = sOf y) : x = y := by
  have := congrArg (fun s : Str => s.cps.toList) h
  simpa [sOf] using this
theorem sOf_len (x : List Nat) : (sOf x).length = x.length := by simp [sOf, Str.length]

/-- a value: tuples and unwritten lists as they are, an object of the small heap by its place -/
inductive Val where
  | non | bl (b : Bool) | int (i : Int) | str (s : List Nat)
  | tup (l : List Val) | lst (l : List Val) | fz (l : List Val) | ref (a : Nat)
  deriving Inhabited

/-- an object that may be written -/
inductive Ob where
  | lst (l : List Val)
  | dic (l : List (Val × Val))
  | ins (c : List Nat) (fs : List (List Nat × Val))
  deriving Inhabited
abbrev Hv := List Ob
abbrev Loc := List (Option Val)

/-- the ghost: where the small heap's objects lie; what else is being written -/
structure Gh where
  m : List Addr
  r : List Addr
def Gh.own (g : Gh) (a : Addr) : Prop := a ∈ g.m ∨ a ∈ g.r

/-- a list that nobody writes at all: the script, a list at the top -/
def FzL (K : PySem.W.Frag) (H : Hp) (a : Addr) (xs : List V) : Prop := (∃ o, H a = some (.frz o (.lst xs))) ∨
  ∃ (o : Obj) (its : Array Value) (n : Nat), K.lookup a = some o ∧ o.cls = .type "list" ∧ o.dict = none ∧ o.data = .seq its n ∧ its.size ≤ sizeLine ∧ Vals xs its.toList
theorem FzL.imp {K : PySem.W.Frag} {H H' : Hp} {a : Addr} {xs : List V} (s : FzL K H a xs) (f : ∀ o, H a = some (.frz o (.lst xs)) → H' a = some (.frz o (.lst xs))) : FzL K H' a xs := s.elim (fun ⟨o, e⟩ => .inl ⟨o, f o e⟩) .inr
theorem FzL.sq {K : PySem.W.Frag} {H : Hp} {a : Addr} {xs : List V} (s : FzL K H a xs) : SqL K H a xs := s.elim (fun ⟨o, e⟩ => .inl (.inr ⟨o, e⟩)) .inr
mutual
def VR (K : PySem.W.Frag) (g : Gh) (H : Hp) : Val → V → Prop
  | .non, x => x = .non
  | .bl b, x => x = .bl b
  | .int i, x => x = .int i
  | .str s, x => x = .str (sOf s)
  | .tup l, x => ∃ a xs, x = .ref a ∧ SqT K H a xs ∧ VRs K g H l xs
  | .lst l, x => ∃ a xs, x = .ref a ∧ ¬ g.own a ∧ H a = some (.lst xs) ∧ VRs K g H l xs
  | .fz l, x => ∃ a xs, x = .ref a ∧ FzL K H a xs ∧ VRs K g H l xs
  | .ref i, x => ∃ a, x = .ref a ∧ g.m[i]? = some a
def VRs (K : PySem.W.Frag) (g : Gh) (H : Hp) : List Val → List V → Prop
  | [], xs => xs = []
  | v :: l, xs => ∃ x r, xs = x :: r ∧ VR K g H v x ∧ VRs K g H l r
end

def keyOf : Val → Option Key
  | .int i => some (.inl i)
  | .str s => some (.inr (sOf s))
  | _ => none
/-- a class by its name -/
abbrev clsA (K : PySem.W.Frag) (c : List Nat) : Addr := He.ga K (sOf c)
/-- the fields, by name -/
def FR (K : PySem.W.Frag) (g : Gh) (H : Hp) (fs : List (List Nat × Val)) (gs : List (Str × V)) : Prop :=
  gs.map (·.1) = fs.map (fun p => sOf p.1) ∧ VRs K g H (fs.map (·.2)) (gs.map (·.2))
def DR (K : PySem.W.Frag) (g : Gh) (H : Hp) (l : List (Val × Val)) (ks : List (Key × V)) : Prop :=
  l.map (fun p => keyOf p.1) = ks.map (fun q => some q.1) ∧ VRs K g H (l.map (·.2)) (ks.map (·.2))
def OR (K : PySem.W.Frag) (g : Gh) (H : Hp) (a : Addr) : Ob → Prop
  | .lst l => ∃ xs, H a = some (.lst xs) ∧ VRs K g H l xs
  | .dic l => ∃ ks, H a = some (.dK ks) ∧ DR K g H l ks
  | .ins c fs => ∃ dx gs, H a = some (.ins (clsA K c) dx gs) ∧ FR K g H fs gs
structure HR (K : PySem.W.Frag) (g : Gh) (H : Hp) (h : Hv) : Prop where
  len : g.m.length = h.length
  nd : g.m.Nodup
  dis : ∀ a ∈ g.m, a ∉ g.r
  al : ∀ a ∈ g.r, ∃ o, H a = some o ∧ Mut (some o)
  obj : ∀ (i : Nat) o a, h[i]? = some o → g.m[i]? = some a → OR K g H a o
structure SR (K : PySem.W.Frag) (g : Gh) (H : Hp) (l : Loc) (σ : L2.St) : Prop where
  len : l.length = σ.length
  at_ : ∀ (i : Nat) v, l[i]? = some (some v) → ∃ x, σ[i]? = some (some x) ∧ VR K g H v x
/-- .. what is being written may have grown -/
structure ExtS (g : Gh) (H : Hp) (g' : Gh) (H' : Hp) : Prop where
  m : ∃ t, g'.m = g.m ++ t ∧ ∀ b ∈ t, H b = none
  r : ∃ u, g'.r = u ++ g.r ∧ ∀ b ∈ u, H b = none
  keep : ∀ b o, H b = some o → ¬ g.own b → H' b = some o
structure Ext (g : Gh) (H : Hp) (g' : Gh) (H' : Hp) : Prop where
  m : ∃ t, g'.m = g.m ++ t ∧ ∀ b ∈ t, H b = none
  r : g'.r = g.r
  keep : ∀ b o, H b = some o → b ∉ g.m → H' b = some o
  there : ∀ b o, H b = some o → ∃ o', H' b = some o'

section
variable {K : PySem.W.Frag} {g g' g'' : Gh} {H H' H'' : Hp} {h : Hv}
theorem Ext.refl : Ext g H g H := ⟨⟨[], by simp, by simp⟩, rfl, fun _ _ e _ => e, fun b o e => ⟨o, e⟩⟩
theorem Ext.trans (a : Ext g H g' H') (b : Ext g' H' g'' H'') : Ext g H g'' H'' := by
  obtain ⟨t, e1, n1⟩ := a.m
  obtain ⟨u, e2, n2⟩ := b.m
  refine ⟨⟨t ++ u, by rw [e2, e1, List.append_assoc], fun c hc => ?_⟩, b.r.trans a.r, fun c o e hn => ?_, fun c o e => ?_⟩
  · rcases List.mem_append.mp hc with hc | hc
    · exact n1 c hc
    · cases q : H c with
      | none => rfl
      | some o =>
        obtain ⟨o', e'⟩ := a.there c o q
        rw [n2 c hc] at e'
        cases e'
  · refine b.keep c o (a.keep c o e hn) ?_
    rw [e1]
    intro hc
    rcases List.mem_append.mp hc with hc | hc
    · exact hn hc
    · rw [n1 c hc] at e; cases e
  · obtain ⟨o', e'⟩ := a.there c o e
    exact b.there c o' e'
theorem HR.own_there (R : HR K g H h) {a : Addr} (ha : g.own a) : ∃ o, H a = some o := by
  rcases ha with ha | ha
  · obtain ⟨i, hi, e⟩ := List.getElem_of_mem ha
    have hi' : i < h.length := by rw [← R.len]; exact hi
    have q := R.obj i h[i] a (by simp [hi']) (by rw [← e]; simp [hi])
    cases ho : h[i] with
    | lst l => rw [ho] at q; obtain ⟨_, e, _⟩ := q; exact ⟨_, e⟩
    | dic l => rw [ho] at q; obtain ⟨_, e, _⟩ := q; exact ⟨_, e⟩
    | ins c f => rw [ho] at q; obtain ⟨_, _, e, _⟩ := q; exact ⟨_, e⟩
  · obtain ⟨o, e, _⟩ := R.al a ha
    exact ⟨_, e⟩
theorem HR.fresh (R : HR K g H h) {a : Addr} (ha : H a = none) : ¬ g.own a := fun q => by
  obtain ⟨o, e⟩ := R.own_there q
  rw [ha] at e; cases e
/-- what is owned is no tuple and not locked -/
theorem HR.kind (R : HR K g H h) {a : Addr} (ha : a ∈ g.m) : (∃ xs, H a = some (.lst xs)) ∨ (∃ ks, H a = some (.dK ks)) ∨ ∃ C dx gs, H a = some (.ins C dx gs) := by
  obtain ⟨i, hi, e⟩ := List.getElem_of_mem ha
  have hi' : i < h.length := by rw [← R.len]; exact hi
  have q := R.obj i h[i] a (by simp [hi']) (by rw [← e]; simp [hi])
  cases ho : h[i] with
  | lst l => rw [ho] at q; obtain ⟨_, e, _⟩ := q; exact .inl ⟨_, e⟩
  | dic l => rw [ho] at q; obtain ⟨_, e, _⟩ := q; exact .inr (.inl ⟨_, e⟩)
  | ins c f => rw [ho] at q; obtain ⟨_, _, e, _⟩ := q; exact .inr (.inr ⟨_, _, _, e⟩)
theorem HR.not_tup (R : HR K g H h) {a : Addr} {xs : List V} (e : Rd H a (.tup xs)) : a ∉ g.m := fun ha => by
  rcases R.kind ha with ⟨_, q⟩ | ⟨_, q⟩ | ⟨_, _, _, q⟩ <;> rcases e with e | ⟨_, e⟩ <;> rw [q] at e <;> cases e
theorem Ext.s (E : Ext g H g' H') : ExtS g H g' H' := ⟨E.m, ⟨[], by rw [E.r]; rfl, by simp⟩, fun b o e hn => E.keep b o e fun z => hn (.inl z)⟩
theorem HR.not_own (R : HR K g H h) {a : Addr} {o : HO} (e : H a = some o) (n : ¬ Mut (some o)) : ¬ g.own a := fun ha => by
  rcases ha with ha | ha
  · rcases R.kind ha with ⟨_, q⟩ | ⟨_, q⟩ | ⟨_, _, _, q⟩ <;> rw [q] at e <;> cases e <;> exact n trivial
  · obtain ⟨o', e', m⟩ := R.al a ha
    rw [e] at e'; cases e'
    exact n m
theorem HR.tup_own (R : HR K g H h) {a : Addr} {xs : List V} (e : Rd H a (.tup xs)) : ¬ g.own a := by
  rcases e with e | ⟨_, e⟩
  · exact R.not_own e (fun z => z)
  · exact R.not_own e (fun z => z)
theorem ExtS.rd (E : ExtS g H g' H') {a : Addr} {u : HO} (ha : ¬ g.own a) (e : Rd H a u) : Rd H' a u := by
  rcases e with e | ⟨o, e⟩
  · exact .inl (E.keep _ _ e ha)
  · exact .inr ⟨o, E.keep _ _ e ha⟩
theorem ExtS.nown (E : ExtS g H g' H') {a : Addr} {o : HO} (ha : ¬ g.own a) (e : H a = some o) : ¬ g'.own a := fun q => by
  obtain ⟨t, em, n⟩ := E.m
  obtain ⟨u, er, n2⟩ := E.r
  rcases q with q | q
  · rw [em] at q
    rcases List.mem_append.mp q with q | q
    · exact ha (.inl q)
    · rw [n a q] at e; cases e
  · rw [er] at q
    rcases List.mem_append.mp q with q | q
    · rw [n2 a q] at e; cases e
    · exact ha (.inr q)
theorem Ext.rd (E : Ext g H g' H') {a : Addr} {u : HO} (ha : a ∉ g.m) (e : Rd H a u) : Rd H' a u := by
  rcases e with e | ⟨o, e⟩
  · exact .inl (E.keep _ _ e ha)
  · exact .inr ⟨o, E.keep _ _ e ha⟩
theorem Ext.nown (E : Ext g H g' H') {a : Addr} {o : HO} (ha : ¬ g.own a) (e : H a = some o) : ¬ g'.own a := fun q => by
  obtain ⟨t, em, n⟩ := E.m
  rcases q with q | q
  · rw [em] at q
    rcases List.mem_append.mp q with q | q
    · exact ha (.inl q)
    · rw [n a q] at e; cases e
  · rw [E.r] at q
    exact ha (.inr q)
theorem Rd.some {a : Addr} {u : HO} (e : Rd H a u) : ∃ o, H a = some o := by
  rcases e with e | ⟨o, e⟩
  · exact ⟨_, e⟩
  · exact ⟨_, e⟩
mutual
theorem VR.extS (R : HR K g H h) (E : ExtS g H g' H') : ∀ {v : Val} {x : V}, VR K g H v x → VR K g' H' v x
  | .non, x, q => by simpa only [VR] using q
  | .bl b, x, q => by simpa only [VR] using q
  | .int i, x, q => by simpa only [VR] using q
  | .str s, x, q => by simpa only [VR] using q
  | .tup l, x, q => by
    simp only [VR] at q ⊢
    obtain ⟨a, xs, e, s, r⟩ := q
    refine ⟨a, xs, e, ?_, VRs.extS R E r⟩
    rcases s with s | s
    · exact .inl (E.rd (R.tup_own s) s)
    · exact .inr s
  | .lst l, x, q => by
    simp only [VR] at q ⊢
    obtain ⟨a, xs, e, n, s, r⟩ := q
    exact ⟨a, xs, e, E.nown n s, E.keep _ _ s n, VRs.extS R E r⟩
  | .fz l, x, q => by
    simp only [VR] at q ⊢
    obtain ⟨a, xs, e, s, r⟩ := q
    refine ⟨a, xs, e, s.imp fun o s => E.keep _ _ s (R.not_own s fun z => z), VRs.extS R E r⟩
  | .ref i, x, q => by
    simp only [VR] at q ⊢
    obtain ⟨a, e, n⟩ := q
    obtain ⟨t, em, _⟩ := E.m
    refine ⟨a, e, ?_⟩
    rw [em, List.getElem?_append_left (List.getElem?_eq_some_iff.mp n).1]
    exact n
theorem VRs.extS (R : HR K g H h) (E : ExtS g H g' H') : ∀ {l : List Val} {xs : List V}, VRs K g H l xs → VRs K g' H' l xs
  | [], xs, q => by simpa only [VRs] using q
  | v :: l, xs, q => by
    simp only [VRs] at q ⊢
    obtain ⟨x, r, e, q1, q2⟩ := q
    exact ⟨x, r, e, VR.extS R E q1, VRs.extS R E q2⟩
end
theorem VR.ext (R : HR K g H h) (E : Ext g H g' H') {v : Val} {x : V} (q : VR K g H v x) : VR K g' H' v x := VR.extS R E.s q
theorem VRs.ext (R : HR K g H h) (E : Ext g H g' H') {l : List Val} {xs : List V} (q : VRs K g H l xs) : VRs K g' H' l xs := VRs.extS R E.s q
theorem SR.ext {l : Loc} {σ : L2.St} (S : SR K g H l σ) (R : HR K g H h) (E : Ext g H g' H') : SR K g' H' l σ :=
  ⟨S.len, fun i v e => by obtain ⟨x, e1, e2⟩ := S.at_ i v e; exact ⟨x, e1, e2.ext R E⟩⟩
end
section
variable {K : PySem.W.Frag} {g : Gh} {H : Hp}
theorem VRs.length : ∀ {l : List Val} {xs : List V}, VRs K g H l xs → l.length = xs.length
  | [], xs, q => by simp only [VRs] at q; subst q; rfl
  | v :: l, xs, q => by
    simp only [VRs] at q
    obtain ⟨x, r, e, _, q2⟩ := q
    subst e
    simp [VRs.length q2]
theorem VRs.get : ∀ {l : List Val} {xs : List V} {i : Nat} {v : Val}, VRs K g H l xs → l[i]? = some v → ∃ x, xs[i]? = some x ∧ VR K g H v x
  | [], xs, i, v, q, e => by simp at e
  | w :: l, xs, i, v, q, e => by
    simp only [VRs] at q
    obtain ⟨x, r, rfl, q1, q2⟩ := q
    cases i with
    | zero => simp at e; subst e; exact ⟨x, by simp, q1⟩
    | succ i =>
      obtain ⟨y, e1, e2⟩ := VRs.get (i := i) q2 (by simpa using e)
      exact ⟨y, by simpa using e1, e2⟩
theorem VRs.get' : ∀ {l : List Val} {xs : List V} {i : Nat} {x : V}, VRs K g H l xs → xs[i]? = some x → ∃ v, l[i]? = some v ∧ VR K g H v x
  | [], xs, i, v, q, e => by simp only [VRs] at q; subst q; simp at e
  | w :: l, xs, i, v, q, e => by
    simp only [VRs] at q
    obtain ⟨x, r, rfl, q1, q2⟩ := q
    cases i with
    | zero => simp at e; subst e; exact ⟨w, by simp, q1⟩
    | succ i =>
      obtain ⟨y, e1, e2⟩ := VRs.get' (i := i) q2 (by simpa using e)
      exact ⟨y, by simpa using e1, e2⟩
theorem VRs.append : ∀ {l l' : List Val} {xs xs' : List V}, VRs K g H l xs → VRs K g H l' xs' → VRs K g H (l ++ l') (xs ++ xs')
  | [], l', xs, xs', q, q' => by simp only [VRs] at q; subst q; simpa using q'
  | v :: l, l', xs, xs', q, q' => by
    simp only [VRs] at q
    obtain ⟨x, r, rfl, q1, q2⟩ := q
    show VRs K g H (v :: (l ++ l')) (x :: (r ++ xs'))
    simp only [VRs]
    exact ⟨x, _, rfl, q1, VRs.append q2 q'⟩
theorem VRs.nil : VRs K g H [] [] := by simp only [VRs]
theorem VRs.cons {v : Val} {x : V} {l : List Val} {xs : List V} (a : VR K g H v x) (b : VRs K g H l xs) : VRs K g H (v :: l) (x :: xs) := by
  simp only [VRs]; exact ⟨x, xs, rfl, a, b⟩
theorem VRs.one {v : Val} {x : V} (a : VR K g H v x) : VRs K g H [v] [x] := .cons a .nil
theorem VRs.take : ∀ {l : List Val} {xs : List V} (n : Nat), VRs K g H l xs → VRs K g H (l.take n) (xs.take n)
  | l, xs, 0, q => by simpa using VRs.nil
  | [], xs, n + 1, q => by simp only [VRs] at q; subst q; simpa using VRs.nil
  | v :: l, xs, n + 1, q => by
    simp only [VRs] at q
    obtain ⟨x, r, rfl, q1, q2⟩ := q
    exact .cons q1 (VRs.take n q2)
theorem VRs.drop : ∀ {l : List Val} {xs : List V} (n : Nat), VRs K g H l xs → VRs K g H (l.drop n) (xs.drop n)
  | l, xs, 0, q => by simpa using q
  | [], xs, n + 1, q => by simp only [VRs] at q; subst q; simpa using VRs.nil
  | v :: l, xs, n + 1, q => by
    simp only [VRs] at q
    obtain ⟨x, r, rfl, q1, q2⟩ := q
    simpa using VRs.drop n q2
theorem VRs.reverse : ∀ {l : List Val} {xs : List V}, VRs K g H l xs → VRs K g H l.reverse xs.reverse
  | [], xs, q => by simp only [VRs] at q; subst q; simpa using VRs.nil
  | v :: l, xs, q => by
    simp only [VRs] at q
    obtain ⟨x, r, rfl, q1, q2⟩ := q
    simp only [List.reverse_cons]
    exact (VRs.reverse q2).append (.one q1)
theorem VRs.set : ∀ {l : List Val} {xs : List V} (i : Nat) {v : Val} {x : V}, VRs K g H l xs → VR K g H v x → VRs K g H (l.set i v) (xs.set i x)
  | [], xs, i, v, x, q, p => by simp only [VRs] at q; subst q; simpa using VRs.nil
  | w :: l, xs, 0, v, x, q, p => by
    simp only [VRs] at q
    obtain ⟨y, r, rfl, q1, q2⟩ := q
    exact .cons p q2
  | w :: l, xs, i + 1, v, x, q, p => by
    simp only [VRs] at q
    obtain ⟨y, r, rfl, q1, q2⟩ := q
    exact .cons q1 (VRs.set i q2 p)
end
end GH
set_option Elab.async false
set_option linter.all false
set_option maxRecDepth 100000
set_option maxHeartbeats 1000000
set_option autoImplicit false
/-! What a piece of text yields, as a function over values and the small heap; the judgements. -/
namespace GH
open PySem PySem.Spec PyProof.Rows L2

structure Ex where
  c : List Nat
  fs : List (List Nat × Val)
inductive Res (α : Type) where
  | ok (a : α) (h : Hv)
  | exc (e : Ex) (h : Hv)
  | fail
def Res.bind {α β : Type} (r : Res α) (k : α → Hv → Res β) : Res β := match r with
  | .ok a h => k a h
  | .exc e h => .exc e h
  | .fail => .fail
@[simp] theorem Res.bind_ok {α β : Type} (a : α) (h : Hv) (k : α → Hv → Res β) : (Res.ok a h).bind k = k a h := rfl
@[simp] theorem Res.bind_exc {α β : Type} (e : Ex) (h : Hv) (k : α → Hv → Res β) : (Res.exc e h : Res α).bind k = .exc e h := rfl
@[simp] theorem Res.bind_fail {α β : Type} (k : α → Hv → Res β) : (Res.fail : Res α).bind k = .fail := rfl
abbrev DenG (α : Type) := Loc → Hv → Res α
abbrev Den := DenG Val
def ER (K : PySem.W.Frag) (g : Gh) (H : Hp) (e : Ex) (cls : Value) (d : Option Addr) : Prop := cls = .ref (clsA K e.c) ∧ match e.fs with
  | [] => d = none
  | p :: r => ∃ a gs, d = some a ∧ ¬ g.own a ∧ H a = some (.xd gs) ∧ FR K g H (p :: r) gs

def After {α β : Type} (K : PySem.W.Frag) (W : WX) (rel : Gh → Hp → α → β → Prop) (σ : L2.St) (g : Gh) (H : Hp) (Q : β → Hp → Prop) : Res α → Prop
  | .ok v h' => ∀ g' H' x, Ext g H g' H' → HR K g' H' h' → rel g' H' v x → Q x H'
  | .exc e h' => ∀ g' H' cls d, Ext g H g' H' → HR K g' H' h' → ER K g' H' e cls d → W cls d σ H'
  | .fail => False
section
variable {α β : Type} {K : PySem.W.Frag} {W : WX} {rel : Gh → Hp → α → β → Prop} {σ : L2.St} {g g1 : Gh} {H H1 : Hp} {Q : β → Hp → Prop}
theorem After.ext {r : Res α} (E : Ext g H g1 H1) (A : After K W rel σ g H Q r) : After K W rel σ g1 H1 Q r := by
  cases r with
  | ok v h => exact fun g' H' x E' => A g' H' x (E.trans E')
  | exc e h => exact fun g' H' c d E' => A g' H' c d (E.trans E')
  | fail => exact A
def tG (K : PySem.W.Frag) (W : WX) (rel : Gh → Hp → α → β → Prop) (d : DenG α) : L2.St → Hp → (β → Hp → Prop) → Prop :=
  fun σ H Q => ∃ g l h, SR K g H l σ ∧ HR K g H h ∧ After K W rel σ g H Q (d l h)
end
abbrev vr (K : PySem.W.Frag) : Gh → Hp → Val → V → Prop := fun g H v x => VR K g H v x
abbrev vrs (K : PySem.W.Frag) : Gh → Hp → List Val → List V → Prop := fun g H v x => VRs K g H v x
abbrev br : Gh → Hp → Bool → Bool → Prop := fun _ _ a b => a = b
/-- an expression yields what d says -/
def GE (X : Cx) (W : WX) (e : Expr) (d : Den) : Prop := PE X e (tG X.K W (vr X.K) d)
def GA (X : Cx) (W : WX) (es : List Expr) (d : DenG (List Val)) : Prop := PA X es (tG X.K W (vrs X.K) d)
def GT (X : Cx) (W : WX) (e : Expr) (d : DenG Bool) : Prop := PT X e (tG X.K W br d)
def GW (X : Cx) (W : WX) (e : Expr) (d : DenG Bool) : Prop := PW X e (tG X.K W br d)

section
variable {α β γ δ : Type} {K : PySem.W.Frag} {W : WX} {σ : L2.St} {g : Gh} {H : Hp} {l : Loc} {h : Hv}
/-- the first part of a bind -/
theorem tG_of {rel : Gh → Hp → α → β → Prop} {rel2 : Gh → Hp → γ → δ → Prop} {d : DenG α} {k : α → Hv → Res γ} {Q : δ → Hp → Prop} {R : β → Hp → Prop} (S : SR K g H l σ) (hr : HR K g H h) (A : After K W rel2 σ g H Q ((d l h).bind k))
    (hk : ∀ v h1 g1 H1 x, Ext g H g1 H1 → SR K g1 H1 l σ → HR K g1 H1 h1 → rel g1 H1 v x → After K W rel2 σ g1 H1 Q (k v h1) → R x H1) : tG K W rel d σ H R := by
  refine ⟨g, l, h, S, hr, ?_⟩
  cases e : d l h with
  | ok v h1 =>
    rw [e] at A
    intro g' H' x E R' r
    exact hk v h1 g' H' x E (S.ext hr E) R' r (After.ext E A)
  | exc x h1 =>
    rw [e] at A
    exact A
  | fail =>
    rw [e] at A
    exact A
end
theorem PE.imp {X : Cx} {e : Expr} {t t' : TE} (p : PE X e t) (h : ∀ σ H Q, t' σ H Q → t σ H Q) : PE X e t' := ⟨fun pins s σ H Q I q => p.run pins s σ H Q I (h σ H Q q)⟩
theorem PA.imp {X : Cx} {e : List Expr} {t t' : TA} (p : PA X e t) (h : ∀ σ H Q, t' σ H Q → t σ H Q) : PA X e t' := ⟨fun pos pins s σ H Q I q => p.run pos pins s σ H Q I (h σ H Q q)⟩
theorem PT.imp {X : Cx} {e : Expr} {t t' : TT} (p : PT X e t) (h : ∀ σ H Q, t' σ H Q → t σ H Q) : PT X e t' := ⟨fun pins s σ H Q I q => p.run pins s σ H Q I (h σ H Q q)⟩
theorem PW.imp {X : Cx} {e : Expr} {t t' : TT} (p : PW X e t) (h : ∀ σ H Q, t' σ H Q → t σ H Q) : PW X e t' := ⟨fun w pins s σ H Q I q => p.run w pins s σ H Q I (h σ H Q q)⟩
theorem PS.imp {X : Cx} {e : Stmt} {t t' : TS} (p : PS X e t) (h : ∀ D σ H, t' D σ H → t D σ H) : PS X e t' := ⟨fun pins s σ H D I q => p.run pins s σ H D I (h D σ H q)⟩
theorem PSs.imp {X : Cx} {e : List Stmt} {t t' : TS} (p : PSs X e t) (h : ∀ D σ H, t' D σ H → t D σ H) : PSs X e t' := ⟨fun pins s σ H D I q => p.run pins s σ H D I (h D σ H q)⟩

/-! ### names, constants -/
def dVar (i : Nat) : Den := fun l h => match l[i]? with
  | some (some v) => .ok v h
  | _ => .fail
def dC (v : Val) : Den := fun _ h => .ok v h
section
variable {X : Cx} {W : WX}
theorem ge_var (i : Nat) {x : Str} {pos : Pos} (hN : X.N[i]? = some x := by rfl) (hv : Vis X.env.scope x := by first | exact Or.inl rfl | exact Or.inr (Or.inl rfl) | exact Or.inr (Or.inr rfl)) (hd : (x == ("__debug__" : Str)) = false := by decide +kernel)
    (hcd : (x == ("__classdict__" : Str)) = false := by decide +kernel) : GE X W (.Name x pos) (dVar i) := by
  refine PE.imp (pe_var hN hv hd hcd) fun σ H Q ⟨g, l, h, S, R, A⟩ => ?_
  unfold dVar at A
  split at A
  · rename_i v e
    obtain ⟨x, e1, r⟩ := S.at_ i v e
    exact ⟨x, e1, A g H x Ext.refl R r⟩
  · exact A.elim
theorem ge_c {e : Expr} {v : Val} {x : V} (p : PE X e (tC x)) (r : ∀ g H, VR X.K g H v x) : GE X W e (dC v) :=
  PE.imp p fun σ H Q ⟨g, l, h, S, R, A⟩ => A g H x Ext.refl R (r g H)
theorem ge_int {i : Int} {j pos} : GE X W (.Constant (.int i) j pos) (dC (.int i)) := ge_c pe_int fun _ _ => by simp only [VR]
theorem ge_bl {b : Bool} {j pos} : GE X W (.Constant (.bool b) j pos) (dC (.bl b)) := ge_c pe_bl fun _ _ => by simp only [VR]
theorem ge_non {j pos} : GE X W (.Constant .none j pos) (dC .non) := ge_c pe_non fun _ _ => by simp only [VR]
theorem ge_str (s : List Nat) {x : Str} {j pos} (e : x = sOf s := by decide +kernel) : GE X W (.Constant (.str x) j pos) (dC (.str s)) := by
  subst e
  exact ge_c pe_str fun _ _ => by simp only [VR]

/-! ### arguments, displays -/
def dNil : DenG (List Val) := fun _ h => .ok [] h
def dCons (d : Den) (r : DenG (List Val)) : DenG (List Val) := fun l h => (d l h).bind fun v h1 => (r l h1).bind fun vs h2 => .ok (v :: vs) h2
theorem ga_nil : GA X W [] dNil := PA.imp pa_nil fun σ H Q ⟨g, l, h, S, R, A⟩ => A g H [] Ext.refl R VRs.nil
theorem ga_cons {e : Expr} {es : List Expr} {d : Den} {r : DenG (List Val)} (ha : GE X W e d) (hr : GA X W es r) (hs : starEach (e :: es) X.env = (false, eval e X.env) :: starEach es X.env := by rfl) : GA X W (e :: es) (dCons d r) := by
  refine PA.imp (pa_cons ha hr hs) fun σ H Q ⟨g, l, h, S, R, A⟩ => ?_
  refine tG_of S R A fun v h1 g1 H1 x E S1 R1 r1 A1 => ?_
  refine tG_of S1 R1 A1 fun vs h2 g2 H2 xs E2 S2 R2 r2 A2 => ?_
  exact A2 g2 H2 (x :: xs) Ext.refl R2 (.cons (r1.ext R1 E2) r2)
/-- a new object that is not tracked by us: a tuple, a list nobody writes -/
theorem HR.grow {K : PySem.W.Frag} {g : Gh} {H : Hp} {h : Hv} {p : Addr} {o : HO} (R : HR K g H h) (np : H p = none) : Ext g H g (upd H p o) ∧ HR K g (upd H p o) h := by
  have E : Ext g H g (upd H p o) := ⟨⟨[], by simp, by simp⟩, rfl, fun b u e hb => by rw [upd_ne (ne_of_none e np)]; exact e, fun b u e => ⟨u, by rw [upd_ne (ne_of_none e np)]; exact e⟩⟩
  refine ⟨E, R.len, R.nd, R.dis, fun a ha => ?_, fun i o' a e1 e2 => ?_⟩
  · obtain ⟨ob, e, mu⟩ := R.al a ha
    exact ⟨ob, by rw [upd_ne (ne_of_none e np)]; exact e, mu⟩
  · have q := R.obj i o' a e1 e2
    cases o' with
    | lst l => obtain ⟨xs, e, r⟩ := q; exact ⟨xs, by rw [upd_ne (ne_of_none e np)]; exact e, r.ext R E⟩
    | dic l => obtain ⟨xs, e, r⟩ := q; exact ⟨xs, by rw [upd_ne (ne_of_none e np)]; exact e, r.1, r.2.ext R E⟩
    | ins c f => obtain ⟨dx, gs, e, r⟩ := q; exact ⟨dx, gs, by rw [upd_ne (ne_of_none e np)]; exact e, r.1, r.2.ext R E⟩
/-- a new object that is tracked by us -/
theorem HR.push {K : PySem.W.Frag} {g : Gh} {H : Hp} {h : Hv} {p : Addr} {o : HO} {ob : Ob} (R : HR K g H h) (np : H p = none)
    (ok : OR K ⟨g.m ++ [p], g.r⟩ (upd H p o) p ob) : Ext g H ⟨g.m ++ [p], g.r⟩ (upd H p o) ∧ HR K ⟨g.m ++ [p], g.r⟩ (upd H p o) (h ++ [ob]) := by
  have E : Ext g H ⟨g.m ++ [p], g.r⟩ (upd H p o) := ⟨⟨[p], rfl, fun b hb => by rw [List.mem_singleton.mp hb]; exact np⟩, rfl, fun b u e hb => by rw [upd_ne (ne_of_none e np)]; exact e, fun b u e => ⟨u, by rw [upd_ne (ne_of_none e np)]; exact e⟩⟩
  have hp : ¬ g.own p := R.fresh np
  refine ⟨E, by simp [R.len], ?_, ?_, fun a ha => ?_, fun i o' a e1 e2 => ?_⟩
  · show (g.m ++ [p]).Nodup
    refine List.nodup_append.mpr ⟨R.nd, by simp, fun a ha b hb => ?_⟩
    rw [List.mem_singleton.mp hb]
    rintro rfl
    exact hp (.inl ha)
  · show ∀ a ∈ g.m ++ [p], a ∉ g.r
    intro a ha
    rcases List.mem_append.mp ha with ha | ha
    · exact R.dis a ha
    · rw [List.mem_singleton.mp ha]
      exact fun z => hp (.inr z)
  · obtain ⟨ob, e, mu⟩ := R.al a ha
    exact ⟨ob, by rw [upd_ne (ne_of_none e np)]; exact e, mu⟩
  · have e2 : (g.m ++ [p])[i]? = some a := e2
    by_cases hi : i < h.length
    · rw [List.getElem?_append_left hi] at e1
      rw [List.getElem?_append_left (by rw [R.len]; exact hi)] at e2
      have q := R.obj i o' a e1 e2
      cases o' with
      | lst l => obtain ⟨xs, e, r⟩ := q; exact ⟨xs, by rw [upd_ne (ne_of_none e np)]; exact e, r.ext R E⟩
      | dic l => obtain ⟨xs, e, r⟩ := q; exact ⟨xs, by rw [upd_ne (ne_of_none e np)]; exact e, r.1, r.2.ext R E⟩
      | ins c f => obtain ⟨dx, gs, e, r⟩ := q; exact ⟨dx, gs, by rw [upd_ne (ne_of_none e np)]; exact e, r.1, r.2.ext R E⟩
    · have hi' : i = h.length := by
        have := (List.getElem?_eq_some_iff.mp e1).1
        simp at this
        omega
      subst hi'
      rw [List.getElem?_append_right (Nat.le_refl _)] at e1
      rw [List.getElem?_append_right (by rw [R.len]; exact Nat.le_refl _)] at e2
      simp at e1
      rw [R.len] at e2
      simp at e2
      subst e1 e2
      exact ok
def lineN : Nat := 16777216
theorem line_ok {n : Nat} (h : n ≤ lineN) : n ≤ sizeLine := by rw [sizeLine_eq]; exact h
theorem line_lt {n : Nat} (h : n < lineN) : n < sizeLine := by rw [sizeLine_eq]; exact h
/-- the result stands in a new tuple -/
def mkTup (vs : List Val) (h : Hv) : Res Val := if vs.length ≤ lineN then .ok (.tup vs) h else .fail
def mkLst (vs : List Val) (h : Hv) : Res Val := if vs.length ≤ lineN then .ok (.lst vs) h else .fail
def mkRef (vs : List Val) (h : Hv) : Res Val := if vs.length ≤ lineN then .ok (.ref h.length) (h ++ [.lst vs]) else .fail
section
variable {K : PySem.W.Frag} {σ : L2.St} {g : Gh} {H : Hp} {h : Hv} {Q : VK} {vs : List Val} {xs : List V}
theorem mkTup_ok (R : HR K g H h) (r : VRs K g H vs xs) (A : After K W (vr K) σ g H Q (mkTup vs h)) : xs.length ≤ sizeLine ∧ ∀ p, H p = none → Q (.ref p) (upd H p (.tup xs)) := by
  unfold mkTup at A
  split at A
  · rename_i hl
    refine ⟨by rw [← r.length]; exact line_ok hl, fun p np => ?_⟩
    obtain ⟨E, R1⟩ := R.grow (o := .tup xs) np
    refine A g _ (.ref p) E R1 ?_
    simp only [VR]
    exact ⟨p, xs, rfl, SqT.of upd_same, r.ext R E⟩
  · exact A.elim
theorem mkLst_ok (R : HR K g H h) (r : VRs K g H vs xs) (A : After K W (vr K) σ g H Q (mkLst vs h)) : xs.length ≤ sizeLine ∧ ∀ p, H p = none → Q (.ref p) (upd H p (.lst xs)) := by
  unfold mkLst at A
  split at A
  · rename_i hl
    refine ⟨by rw [← r.length]; exact line_ok hl, fun p np => ?_⟩
    obtain ⟨E, R1⟩ := R.grow (o := .lst xs) np
    refine A g _ (.ref p) E R1 ?_
    simp only [VR]
    exact ⟨p, xs, rfl, R.fresh np, upd_same, r.ext R E⟩
  · exact A.elim
theorem mkRef_ok (R : HR K g H h) (r : VRs K g H vs xs) (A : After K W (vr K) σ g H Q (mkRef vs h)) : xs.length ≤ sizeLine ∧ ∀ p, H p = none → Q (.ref p) (upd H p (.lst xs)) := by
  unfold mkRef at A
  split at A
  · rename_i hl
    refine ⟨by rw [← r.length]; exact line_ok hl, fun p np => ?_⟩
    have E : Ext g H ⟨g.m ++ [p], g.r⟩ (upd H p (.lst xs)) := ⟨⟨[p], rfl, fun b hb => by rw [List.mem_singleton.mp hb]; exact np⟩, rfl, fun b u e hb => by rw [upd_ne (ne_of_none e np)]; exact e, fun b u e => ⟨u, by rw [upd_ne (ne_of_none e np)]; exact e⟩⟩
    obtain ⟨_, R1⟩ := R.push (o := .lst xs) (ob := .lst vs) np ⟨xs, upd_same, r.ext R E⟩
    refine A _ _ (.ref p) E R1 ?_
    simp only [VR]
    refine ⟨p, rfl, ?_⟩
    show (g.m ++ [p])[h.length]? = some p
    rw [← R.len]
    simp
  · exact A.elim
end
def dTup (r : DenG (List Val)) : Den := fun l h => (r l h).bind mkTup
def dLst (r : DenG (List Val)) : Den := fun l h => (r l h).bind mkLst
def dLstM (r : DenG (List Val)) : Den := fun l h => (r l h).bind mkRef
theorem ge_tup {es : List Expr} {r : DenG (List Val)} {k : Nat} {pos : Pos} (ha : GA X W es r) : GE X W (.Tuple es k pos) (dTup r) := by
  refine PE.imp (pe_tup ha) fun σ H Q ⟨g, l, h, S, R, A⟩ => ?_
  exact tG_of S R A fun v h1 g1 H1 x E S1 R1 r1 A1 => mkTup_ok R1 r1 A1
theorem ge_lst {es : List Expr} {r : DenG (List Val)} {pos : Pos} (ha : GA X W es r) : GE X W (.List es pos) (dLst r) := by
  refine PE.imp (pe_lst ha) fun σ H Q ⟨g, l, h, S, R, A⟩ => ?_
  exact tG_of S R A fun v h1 g1 H1 x E S1 R1 r1 A1 => mkLst_ok R1 r1 A1
theorem ge_lstM {es : List Expr} {r : DenG (List Val)} {pos : Pos} (ha : GA X W es r) : GE X W (.List es pos) (dLstM r) := by
  refine PE.imp (pe_lst ha) fun σ H Q ⟨g, l, h, S, R, A⟩ => ?_
  exact tG_of S R A fun v h1 g1 H1 x E S1 R1 r1 A1 => mkRef_ok R1 r1 A1

/-! ### operators: by values -/
/-- f on values, when the operands stand, is r -/
def OpG (X : Cx) (op : Value → Value → Sem Value) (f : Val → Val → Hv → Res Val) : Prop := ∃ r : R2, OpR X op r ∧
  ∀ (W : WX) (g : Gh) (H : Hp) (h : Hv) (σ : L2.St) (v u : Val) (x y : V) (Q : VK), HR X.K g H h → VR X.K g H v x → VR X.K g H u y → After X.K W (vr X.K) σ g H Q (f v u h) → r x y H Q
def dBin (f : Val → Val → Hv → Res Val) (da db : Den) : Den := fun l h => (da l h).bind fun v h1 => (db l h1).bind fun u h2 => f v u h2
theorem tBin {X : Cx} {W : WX} {f : Val → Val → Hv → Res Val} {da db : Den} {r : R2}
    (hr : ∀ (W : WX) (g : Gh) (H : Hp) (h : Hv) (σ : L2.St) (v u : Val) (x y : V) (Q : VK), HR X.K g H h → VR X.K g H v x → VR X.K g H u y → After X.K W (vr X.K) σ g H Q (f v u h) → r x y H Q)
    (σ : L2.St) (H : Hp) (Q : VK) (z : tG X.K W (vr X.K) (dBin f da db) σ H Q) : tOp r (tG X.K W (vr X.K) da) (tG X.K W (vr X.K) db) σ H Q := by
  obtain ⟨g, l, h, S, R, A⟩ := z
  refine tG_of S R A fun v h1 g1 H1 x E S1 R1 r1 A1 => ?_
  refine tG_of S1 R1 A1 fun u h2 g2 H2 y E2 S2 R2 r2 A2 => ?_
  exact hr W g2 H2 h2 σ v u x y Q R2 (r1.ext R1 E2) r2 A2
theorem ge_bin {op : Operator} {f : Val → Val → Hv → Res Val} {a b : Expr} {da db : Den} {pos : Pos} (ho : OpG X (binaryOp op) f) (ha : GE X W a da) (hb : GE X W b db) : GE X W (.BinOp a op b pos) (dBin f da db) := by
  obtain ⟨r, ho, hr⟩ := ho
  exact PE.imp (pe_op ho ha hb) fun σ H Q z => tBin hr σ H Q z
theorem ge_cmp {op : CmpOp} {f : Val → Val → Hv → Res Val} {a b : Expr} {da db : Den} {pos : Pos} (ho : OpG X (compareOp op) f) (ha : GE X W a da) (hb : GE X W b db) (hm : behindInMarks op b = false := by first | exact nomark _ | rfl) : GE X W (.Compare a [op] [b] pos) (dBin f da db) := by
  obtain ⟨r, ho, hr⟩ := ho
  exact PE.imp (pe_cmpR ho ha hb hm) fun σ H Q z => tBin hr σ H Q z
def resB (r : Res Val) : Res Bool := r.bind fun v h => match v with
  | .bl b => .ok b h
  | _ => .fail
/-- an expression that yields a bool, as a test -/
def dB (d : Den) : DenG Bool := fun l h => resB (d l h)
theorem tB_of {d : Den} {σ : L2.St} {H : Hp} {Q : Bool → Hp → Prop} (z : tG X.K W br (dB d) σ H Q) : tG X.K W (vr X.K) d σ H fun x H1 => ∃ c, x = .bl c ∧ Q c H1 := by
  obtain ⟨g, l, h, S, R, A⟩ := z
  refine tG_of S R (A : After X.K W br σ g H Q ((d l h).bind _)) fun v h1 g1 H1 x E S1 R1 r1 A1 => ?_
  cases v with
  | bl b =>
    simp only [VR] at r1
    exact ⟨b, r1, A1 g1 H1 b Ext.refl R1 rfl⟩
  | _ => exact A1.elim
theorem gt_cmp {op : CmpOp} {f : Val → Val → Hv → Res Val} {a b : Expr} {da db : Den} {pos : Pos} (ho : OpG X (compareOp op) f) (ha : GE X W a da) (hb : GE X W b db) (hm : behindInMarks op b = false := by first | exact nomark _ | rfl) : GT X W (.Compare a [op] [b] pos) (dB (dBin f da db)) := by
  obtain ⟨r, ho, hr⟩ := ho
  exact PT.imp (pt_cmpR ho ha hb hm) fun σ H Q z => tBin hr σ H _ (tB_of z)
theorem gt_val {e : Expr} {d : Den} (he : GE X W e d) (hs : ∀ whole, isTrue e X.env whole = (do let v ← whole; standAt e.pos; holding [v] (truthy v)) := by intro _; rfl) : GT X W e (dB d) :=
  PT.imp (pt_val he hs) fun σ H Q z => tB_of z

/-! ### and, or, not; if-else -/
def dAnd (a b : DenG Bool) : DenG Bool := fun l h => (a l h).bind fun c h1 => if c then b l h1 else .ok false h1
def dOr (a b : DenG Bool) : DenG Bool := fun l h => (a l h).bind fun c h1 => if c then .ok true h1 else b l h1
def dNot (a : DenG Bool) : DenG Bool := fun l h => (a l h).bind fun c h1 => .ok (!c) h1
theorem gw_and1 {a : Expr} {d : DenG Bool} {pos : Pos} (ha : GT X W a d) : GW X W (.BoolOp .And [a] pos) d := pw_and1 ha
theorem gw_or1 {a : Expr} {d : DenG Bool} {pos : Pos} (ha : GT X W a d) : GW X W (.BoolOp .Or [a] pos) d := pw_or1 ha
theorem gw_and {a b : Expr} {rest : List Expr} {da db : DenG Bool} {pos : Pos} (ha : GT X W a da) (hb : GW X W (.BoolOp .And (b :: rest) pos) db) : GW X W (.BoolOp .And (a :: b :: rest) pos) (dAnd da db) := by
  refine PW.imp (pw_and ha hb) fun σ H Q ⟨g, l, h, S, R, A⟩ => ?_
  refine tG_of S R A fun v h1 g1 H1 x E S1 R1 r1 A1 => ?_
  obtain rfl : v = x := r1
  cases v with
  | true => exact ⟨g1, l, h1, S1, R1, A1⟩
  | false => exact A1 g1 H1 false Ext.refl R1 rfl
theorem gw_or {a b : Expr} {rest : List Expr} {da db : DenG Bool} {pos : Pos} (ha : GT X W a da) (hb : GW X W (.BoolOp .Or (b :: rest) pos) db) : GW X W (.BoolOp .Or (a :: b :: rest) pos) (dOr da db) := by
  refine PW.imp (pw_or ha hb) fun σ H Q ⟨g, l, h, S, R, A⟩ => ?_
  refine tG_of S R A fun v h1 g1 H1 x E S1 R1 r1 A1 => ?_
  obtain rfl : v = x := r1
  cases v with
  | true => exact A1 g1 H1 true Ext.refl R1 rfl
  | false => exact ⟨g1, l, h1, S1, R1, A1⟩
theorem GW.pt {e : Expr} {d : DenG Bool} (h : GW X W e d) : GT X W e d := PW.pt h
theorem gt_not {a : Expr} {d : DenG Bool} {pos : Pos} (ha : GT X W a d) : GT X W (.UnaryOp .Not a pos) (dNot d) := by
  refine PT.imp (pt_not ha) fun σ H Q ⟨g, l, h, S, R, A⟩ => ?_
  refine tG_of S R A fun v h1 g1 H1 x E S1 R1 r1 A1 => ?_
  obtain rfl : v = x := r1
  exact A1 g1 H1 (!v) Ext.refl R1 rfl
def dIf (c : DenG Bool) (a b : Den) : Den := fun l h => (c l h).bind fun t h1 => if t then a l h1 else b l h1
theorem ge_if {c a b : Expr} {dc : DenG Bool} {da db : Den} {pos : Pos} (hc : GT X W c dc) (ha : GE X W a da) (hb : GE X W b db) : GE X W (.IfExp c a b pos) (dIf dc da db) := by
  refine PE.imp (pe_ifExp hc ha hb) fun σ H Q ⟨g, l, h, S, R, A⟩ => ?_
  refine tG_of S R A fun v h1 g1 H1 x E S1 R1 r1 A1 => ?_
  obtain rfl : v = x := r1
  cases v with
  | true => exact ⟨g1, l, h1, S1, R1, A1⟩
  | false => exact ⟨g1, l, h1, S1, R1, A1⟩
/-- and, or, not as values (bools all) -/
def dAndV (a b : Den) : Den := fun l h => (a l h).bind fun v h1 => match v with
  | .bl c => if c then b l h1 else .ok (.bl false) h1
  | _ => .fail
def dOrV (a b : Den) : Den := fun l h => (a l h).bind fun v h1 => match v with
  | .bl c => if c then .ok (.bl true) h1 else b l h1
  | _ => .fail
def dNotV (a : Den) : Den := fun l h => (a l h).bind fun v h1 => match v with
  | .bl c => .ok (.bl (!c)) h1
  | _ => .fail
theorem ge_one {op} {a : Expr} {d : Den} {pos : Pos} (ha : GE X W a d) : GE X W (.BoolOp op [a] pos) d := pe_one ha
theorem ge_and {a b : Expr} {rest : List Expr} {da db : Den} {pos : Pos} (ha : GE X W a da) (hb : GE X W (.BoolOp .And (b :: rest) pos) db) : GE X W (.BoolOp .And (a :: b :: rest) pos) (dAndV da db) := by
  refine PE.imp (pe_and ha hb) fun σ H Q ⟨g, l, h, S, R, A⟩ => ?_
  refine tG_of S R A fun v h1 g1 H1 x E S1 R1 r1 A1 => ?_
  cases v with
  | bl c =>
    simp only [VR] at r1
    refine ⟨c, r1, ?_⟩
    cases c with
    | true => exact ⟨g1, l, h1, S1, R1, A1⟩
    | false => exact A1 g1 H1 (.bl false) Ext.refl R1 (by simp only [VR])
  | _ => exact A1.elim
theorem ge_or {a b : Expr} {rest : List Expr} {da db : Den} {pos : Pos} (ha : GE X W a da) (hb : GE X W (.BoolOp .Or (b :: rest) pos) db) : GE X W (.BoolOp .Or (a :: b :: rest) pos) (dOrV da db) := by
  refine PE.imp (pe_or ha hb) fun σ H Q ⟨g, l, h, S, R, A⟩ => ?_
  refine tG_of S R A fun v h1 g1 H1 x E S1 R1 r1 A1 => ?_
  cases v with
  | bl c =>
    simp only [VR] at r1
    refine ⟨c, r1, ?_⟩
    cases c with
    | true => exact A1 g1 H1 (.bl true) Ext.refl R1 (by simp only [VR])
    | false => exact ⟨g1, l, h1, S1, R1, A1⟩
  | _ => exact A1.elim
theorem ge_not {a : Expr} {d : Den} {pos : Pos} (ha : GE X W a d) : GE X W (.UnaryOp .Not a pos) (dNotV d) := by
  refine PE.imp (pe_not ha) fun σ H Q ⟨g, l, h, S, R, A⟩ => ?_
  refine tG_of S R A fun v h1 g1 H1 x E S1 R1 r1 A1 => ?_
  cases v with
  | bl c =>
    simp only [VR] at r1
    exact ⟨c, r1, A1 g1 H1 _ Ext.refl R1 (by simp only [VR])⟩
  | _ => exact A1.elim
end

/-! ### statements -/
inductive SRes where
  | nx (l : Loc) (h : Hv) | rt (v : Val) (h : Hv) | bk (l : Loc) (h : Hv) | ct (l : Loc) (h : Hv) | exc (e : Ex) (l : Loc) (h : Hv) | fail
abbrev Stm := Loc → Hv → SRes
def AfterS (K : PySem.W.Frag) (W : WX) (g : Gh) (H : Hp) (D : Ends) : SRes → Prop
  | .nx l' h' => ∀ g' H' σ', Ext g H g' H' → HR K g' H' h' → SR K g' H' l' σ' → D.nx σ' H'
  | .bk l' h' => ∀ g' H' σ', Ext g H g' H' → HR K g' H' h' → SR K g' H' l' σ' → D.bk σ' H'
  | .ct l' h' => ∀ g' H' σ', Ext g H g' H' → HR K g' H' h' → SR K g' H' l' σ' → D.ct σ' H'
  | .rt v h' => ∀ g' H' x, Ext g H g' H' → HR K g' H' h' → VR K g' H' v x → D.rt x H'
  | .exc e l' h' => ∀ g' H' σ' cls d, Ext g H g' H' → HR K g' H' h' → SR K g' H' l' σ' → ER K g' H' e cls d → W cls d σ' H'
  | .fail => False
theorem AfterS.ext {K : PySem.W.Frag} {W : WX} {g g1 : Gh} {H H1 : Hp} {D : Ends} {r : SRes} (E : Ext g H g1 H1) (A : AfterS K W g H D r) : AfterS K W g1 H1 D r := by
  cases r with
  | nx l h => exact fun g' H' x E' => A g' H' x (E.trans E')
  | bk l h => exact fun g' H' x E' => A g' H' x (E.trans E')
  | ct l h => exact fun g' H' x E' => A g' H' x (E.trans E')
  | rt l h => exact fun g' H' x E' => A g' H' x (E.trans E')
  | exc e l h => exact fun g' H' s c d E' => A g' H' s c d (E.trans E')
  | fail => exact A
def tS (K : PySem.W.Frag) (W : WX) (d : Stm) : TS := fun D σ H => ∃ g l h, SR K g H l σ ∧ HR K g H h ∧ AfterS K W g H D (d l h)
def GS (X : Cx) (W : WX) (st : Stmt) (d : Stm) : Prop := PS X st (tS X.K W d)
def GSs (X : Cx) (W : WX) (st : List Stmt) (d : Stm) : Prop := PSs X st (tS X.K W d)
/-- from an expression's result on -/
def Res.to {α : Type} (r : Res α) (l : Loc) (k : α → Hv → SRes) : SRes := match r with
  | .ok v h => k v h
  | .exc e h => .exc e l h
  | .fail => .fail
@[simp] theorem Res.to_ok {α : Type} (a : α) (h : Hv) (l : Loc) (k : α → Hv → SRes) : (Res.ok a h).to l k = k a h := rfl
@[simp] theorem Res.to_exc {α : Type} (e : Ex) (h : Hv) (l : Loc) (k : α → Hv → SRes) : (Res.exc e h : Res α).to l k = .exc e l h := rfl
@[simp] theorem Res.to_fail {α : Type} (l : Loc) (k : α → Hv → SRes) : (Res.fail : Res α).to l k = .fail := rfl
theorem tG_to {α β : Type} {K : PySem.W.Frag} {W : WX} {σ : L2.St} {g : Gh} {H : Hp} {l : Loc} {h : Hv} {rel : Gh → Hp → α → β → Prop} {d : DenG α} {k : α → Hv → SRes} {D : Ends} {R : β → Hp → Prop} (S : SR K g H l σ) (hr : HR K g H h) (A : AfterS K W g H D ((d l h).to l k))
    (hk : ∀ v h1 g1 H1 x, Ext g H g1 H1 → SR K g1 H1 l σ → HR K g1 H1 h1 → rel g1 H1 v x → AfterS K W g1 H1 D (k v h1) → R x H1) : tG K W rel d σ H R := by
  refine ⟨g, l, h, S, hr, ?_⟩
  cases e : d l h with
  | ok v h1 =>
    rw [e] at A
    intro g' H' x E R' r
    exact hk v h1 g' H' x E (S.ext hr E) R' r (AfterS.ext E A)
  | exc x h1 =>
    rw [e] at A
    intro g' H' c d' E R' r
    exact A g' H' σ c d' E R' (S.ext hr E) r
  | fail =>
    rw [e] at A
    exact A
def sNext : Stm := fun l h => .nx l h
def SRes.andThen (r : SRes) (k : Stm) : SRes := match r with
  | .nx l h => k l h
  | r => r
@[simp] theorem SRes.andThen_nx (l : Loc) (h : Hv) (k : Stm) : (SRes.nx l h).andThen k = k l h := rfl
@[simp] theorem SRes.andThen_rt (v : Val) (h : Hv) (k : Stm) : (SRes.rt v h).andThen k = .rt v h := rfl
@[simp] theorem SRes.andThen_bk (l : Loc) (h : Hv) (k : Stm) : (SRes.bk l h).andThen k = .bk l h := rfl
@[simp] theorem SRes.andThen_ct (l : Loc) (h : Hv) (k : Stm) : (SRes.ct l h).andThen k = .ct l h := rfl
@[simp] theorem SRes.andThen_exc (e : Ex) (l : Loc) (h : Hv) (k : Stm) : (SRes.exc e l h).andThen k = .exc e l h := rfl
@[simp] theorem SRes.andThen_fail (k : Stm) : SRes.fail.andThen k = .fail := rfl
def sSeq (a b : Stm) : Stm := fun l h => (a l h).andThen b
def sRet (d : Den) : Stm := fun l h => (d l h).to l .rt
def sRetN : Stm := fun _ h => .rt .non h
def sExpr (d : Den) : Stm := fun l h => (d l h).to l fun _ h1 => .nx l h1
def sIf (c : DenG Bool) (a b : Stm) : Stm := fun l h => (c l h).to l fun t h1 => if t then a l h1 else b l h1
def sBreak : Stm := fun l h => .bk l h
def sCont : Stm := fun l h => .ct l h
section
variable {X : Cx} {W : WX}
theorem gs_nil : GSs X W [] sNext := PSs.imp pss_nil fun D σ H ⟨g, l, h, S, R, A⟩ => A g H σ Ext.refl R S
theorem gs_cons {st : Stmt} {rest : List Stmt} {a b : Stm} (h1 : GS X W st a) (h2 : GSs X W rest b) : GSs X W (st :: rest) (sSeq a b) := by
  refine PSs.imp (pss_cons h1 h2) fun D σ H ⟨g, l, h, S, R, A⟩ => ⟨g, l, h, S, R, ?_⟩
  unfold sSeq at A
  cases e : a l h with
  | nx l1 h1 =>
    rw [e] at A
    exact fun g' H' σ' E R' S' => ⟨g', l1, h1, S', R', AfterS.ext E A⟩
  | bk l1 h1 => rw [e] at A; exact A
  | ct l1 h1 => rw [e] at A; exact A
  | rt l1 h1 => rw [e] at A; exact A
  | exc x l1 h1 => rw [e] at A; exact A
  | fail => rw [e] at A; exact A
theorem gs_one {st : Stmt} {a : Stm} (h1 : GS X W st a) : GSs X W [st] a := pss_one h1
theorem gs_ret {e : Expr} {d : Den} {pos : Pos} (he : GE X W e d) : GS X W (.Return (some e) pos) (sRet d) := by
  refine PS.imp (ps_ret he) fun D σ H ⟨g, l, h, S, R, A⟩ => ?_
  exact tG_to S R A fun v h1 g1 H1 x E S1 R1 r1 A1 => A1 g1 H1 x Ext.refl R1 r1
theorem gs_retN {pos : Pos} : GS X W (.Return none pos) sRetN := PS.imp ps_retN fun D σ H ⟨g, l, h, S, R, A⟩ => A g H .non Ext.refl R (by simp only [VR])
theorem gs_expr {e : Expr} {d : Den} {pos : Pos} (he : GE X W e d) (hs : swapsWith e none pos.line X.env = pure false := by rfl) : GS X W (.Expr e pos) (sExpr d) := by
  refine PS.imp (ps_expr he hs) fun D σ H ⟨g, l, h, S, R, A⟩ => ?_
  exact tG_to S R A fun v h1 g1 H1 x E S1 R1 r1 A1 => A1 g1 H1 σ Ext.refl R1 S1
theorem gs_if {c : Expr} {a b : List Stmt} {dc : DenG Bool} {da db : Stm} {pos : Pos} (hc : GT X W c dc) (ha : GSs X W a da) (hb : GSs X W b db) : GS X W (.If c a b pos) (sIf dc da db) := by
  refine PS.imp (ps_if hc ha hb) fun D σ H ⟨g, l, h, S, R, A⟩ => ?_
  refine tG_to S R A fun v h1 g1 H1 x E S1 R1 r1 A1 => ?_
  obtain rfl : v = x := r1
  cases v with
  | true => exact ⟨g1, l, h1, S1, R1, A1⟩
  | false => exact ⟨g1, l, h1, S1, R1, A1⟩
theorem gs_pass {pos : Pos} : GS X W (.Pass pos) sNext := PS.imp ps_pass fun D σ H ⟨g, l, h, S, R, A⟩ => A g H σ Ext.refl R S
theorem gs_break {pos : Pos} : GS X W (.Break pos) sBreak := PS.imp ps_break fun D σ H ⟨g, l, h, S, R, A⟩ => A g H σ Ext.refl R S
theorem gs_continue {pos : Pos} : GS X W (.Continue pos) sCont := PS.imp ps_continue fun D σ H ⟨g, l, h, S, R, A⟩ => A g H σ Ext.refl R S

/-! ### targets -/
inductive TRes where
  | ok (l : Loc) (h : Hv) | exc (e : Ex) (l : Loc) (h : Hv) | fail
abbrev Tg := Val → Loc → Hv → TRes
abbrev Tgs := List Val → Loc → Hv → TRes
def AfterT (K : PySem.W.Frag) (W : WX) (g : Gh) (H : Hp) (Q : L2.St → Hp → Prop) : TRes → Prop
  | .ok l' h' => ∀ g' H' σ', Ext g H g' H' → HR K g' H' h' → SR K g' H' l' σ' → Q σ' H'
  | .exc e l' h' => ∀ g' H' σ' cls d, Ext g H g' H' → HR K g' H' h' → SR K g' H' l' σ' → ER K g' H' e cls d → W cls d σ' H'
  | .fail => False
theorem AfterT.ext {K : PySem.W.Frag} {W : WX} {g g1 : Gh} {H H1 : Hp} {D : L2.St → Hp → Prop} {r : TRes} (E : Ext g H g1 H1) (A : AfterT K W g H D r) : AfterT K W g1 H1 D r := by
  cases r with
  | ok l h => exact fun g' H' x E' => A g' H' x (E.trans E')
  | exc e l h => exact fun g' H' s c d E' => A g' H' s c d (E.trans E')
  | fail => exact A
def tT (K : PySem.W.Frag) (W : WX) (d : Tg) : TG := fun x σ H Q => ∃ g l h v, SR K g H l σ ∧ HR K g H h ∧ VR K g H v x ∧ AfterT K W g H Q (d v l h)
def tTs (K : PySem.W.Frag) (W : WX) (d : Tgs) : TGs := fun x σ H Q => ∃ g l h v, SR K g H l σ ∧ HR K g H h ∧ VRs K g H v x ∧ AfterT K W g H Q (d v l h)
def GG (X : Cx) (W : WX) (tg : Expr) (d : Tg) : Prop := PG X tg (tT X.K W d)
def GGs (X : Cx) (W : WX) (tg : List Expr) (d : Tgs) : Prop := PGs X tg (tTs X.K W d)
theorem PG.imp {X : Cx} {e : Expr} {t t' : TG} (p : PG X e t) (h : ∀ x σ H Q, t' x σ H Q → t x σ H Q) : PG X e t' := ⟨fun pins s σ H v u Q I r q => p.run pins s σ H v u Q I r (h v σ H Q q)⟩
theorem PGs.imp {X : Cx} {e : List Expr} {t t' : TGs} (p : PGs X e t) (h : ∀ x σ H Q, t' x σ H Q → t x σ H Q) : PGs X e t' := ⟨fun pins s σ H v u Q I r q => p.run pins s σ H v u Q I r (h v σ H Q q)⟩
def gName (i : Nat) : Tg := fun v l h => .ok (l.set i (some v)) h
theorem SR.set {K : PySem.W.Frag} {g : Gh} {H : Hp} {l : Loc} {σ : L2.St} {v : Val} {x : V} (S : SR K g H l σ) (i : Nat) (r : VR K g H v x) : SR K g H (l.set i (some v)) (σ.set i (some x)) := by
  refine ⟨by simp [S.len], fun j u e => ?_⟩
  by_cases hj : i = j
  · subst hj
    have hi : i < l.length := by
      have := (List.getElem?_eq_some_iff.mp e).1
      simpa using this
    rw [List.getElem?_set_self hi] at e
    cases e
    exact ⟨x, by rw [List.getElem?_set_self (by rw [← S.len]; exact hi)], r⟩
  · rw [List.getElem?_set_ne hj] at e
    obtain ⟨y, e1, e2⟩ := S.at_ j u e
    exact ⟨y, by rw [List.getElem?_set_ne hj]; exact e1, e2⟩
theorem gg_name (i : Nat) {x : Str} {pos : Pos} (hN : X.N.Nodup) (hi : X.N[i]? = some x := by rfl) (hx : L2.Loc X.env.scope x := by first | exact Or.inl rfl | exact Or.inr rfl) (hf : X.fn x = true ∨ X.env.scope.names.lookup x = some .local := by first | exact .inl rfl | exact .inr rfl) : GG X W (.Name x pos) (gName i) := by
  refine PG.imp (pg_name hN hi hx hf) fun y σ H Q ⟨g, l, h, v, S, R, r, A⟩ => ?_
  exact A g H _ Ext.refl R (S.set i r)
def gsNil : Tgs := fun vs l h => match vs with
  | [] => .ok l h
  | _ => .fail
def TRes.bind (r : TRes) (k : Loc → Hv → TRes) : TRes := match r with
  | .ok l h => k l h
  | .exc e l h => .exc e l h
  | .fail => .fail
@[simp] theorem TRes.bind_ok (l : Loc) (h : Hv) (k : Loc → Hv → TRes) : (TRes.ok l h).bind k = k l h := rfl
@[simp] theorem TRes.bind_exc (e : Ex) (l : Loc) (h : Hv) (k : Loc → Hv → TRes) : (TRes.exc e l h).bind k = .exc e l h := rfl
@[simp] theorem TRes.bind_fail (k : Loc → Hv → TRes) : TRes.fail.bind k = .fail := rfl
def gsCons (t : Tg) (u : Tgs) : Tgs := fun vs l h => match vs with
  | v :: r => (t v l h).bind fun l1 h1 => u r l1 h1
  | [] => .fail
theorem ggs_nil : GGs X W [] gsNil := by
  refine PGs.imp pgs_nil fun y σ H Q ⟨g, l, h, v, S, R, r, A⟩ => ?_
  cases v with
  | nil =>
    simp only [VRs] at r
    exact ⟨r, A g H σ Ext.refl R S⟩
  | cons v vs => exact A.elim
theorem ggs_cons {e : Expr} {es : List Expr} {t : Tg} {u : Tgs} (h1 : GG X W e t) (h2 : GGs X W es u)
    (hs : (assignEach (e :: es) X.env).map (·.2) = assign e X.env :: (assignEach es X.env).map (·.2) := by rfl) : GGs X W (e :: es) (gsCons t u) := by
  refine PGs.imp (pgs_cons h1 h2 hs) fun y σ H Q ⟨g, l, h, v, S, R, r, A⟩ => ?_
  cases v with
  | nil => exact A.elim
  | cons v vs =>
    simp only [VRs] at r
    obtain ⟨x, r', rfl, q1, q2⟩ := r
    refine ⟨x, r', rfl, g, l, h, v, S, R, q1, ?_⟩
    simp only [gsCons] at A
    cases e : t v l h with
    | ok l1 h1 =>
      rw [e] at A
      exact fun g' H' σ' E R' S' => ⟨g', l1, h1, vs, S', R', q2.ext R E, AfterT.ext E A⟩
    | exc x l1 h1 => rw [e] at A; exact A
    | fail => rw [e] at A; exact A
def gTup (n : Nat) (t : Tgs) : Tg := fun v l h => match v with
  | .tup vs => if vs.length = n then t vs l h else .fail
  | _ => .fail
theorem gg_tup {es : List Expr} {k : Nat} {t : Tgs} {n : Nat} {pos : Pos} (hc : X.calm = true) (h : GGs X W es t)
    (hn : (assignEach es X.env).length = n := by rfl) (hst : (assignEach es X.env).findIdx? (·.1) = none := by rfl) : GG X W (.Tuple es k pos) (gTup n t) := by
  refine PG.imp (pg_tup hc h hn hst) fun y σ H Q ⟨g, l, h, v, S, R, r, A⟩ => ?_
  cases v with
  | tup vs =>
    simp only [VR] at r
    obtain ⟨a, xs, rfl, q1, q2⟩ := r
    unfold gTup at A
    simp only at A
    split at A
    · rename_i hl
      exact ⟨a, xs, rfl, q1, by rw [← q2.length]; exact hl, g, l, h, vs, S, R, q2, A⟩
    · exact A.elim
  | _ => exact A.elim
def TRes.s (r : TRes) : SRes := match r with
  | .ok l h => .nx l h
  | .exc e l h => .exc e l h
  | .fail => .fail
@[simp] theorem TRes.s_ok (l : Loc) (h : Hv) : (TRes.ok l h).s = .nx l h := rfl
@[simp] theorem TRes.s_exc (e : Ex) (l : Loc) (h : Hv) : (TRes.exc e l h).s = .exc e l h := rfl
@[simp] theorem TRes.s_fail : TRes.fail.s = .fail := rfl
theorem AfterT.of_s {K : PySem.W.Frag} {W : WX} {g : Gh} {H : Hp} {D : Ends} {r : TRes} (A : AfterS K W g H D r.s) : AfterT K W g H D.nx r := by
  cases r <;> exact A
def sAsg (d : Den) (t : Tg) : Stm := fun l h => (d l h).to l fun v h1 => (t v l h1).s
theorem gs_asg {tg e : Expr} {d : Den} {t : Tg} {pos : Pos} (he : GE X W e d) (hg : GG X W tg t) (hs : swapsWithSole [tg] e pos.line X.env = pure false := by rfl) (hw : swappedStores [tg] e X.env = pure none := by rfl)
    (h1 : (assignEach [tg] X.env).map (·.2) = [assign tg X.env] := by rfl) : GS X W (.Assign [tg] e pos) (sAsg d t) := by
  refine PS.imp (ps_asg he hg hs hw h1) fun D σ H ⟨g, l, h, S, R, A⟩ => ?_
  exact tG_to S R A fun v h1 g1 H1 x E S1 R1 r1 A1 => ⟨g1, l, h1, v, S1, R1, r1, AfterT.of_s A1⟩
theorem gs_set (i : Nat) {x : Str} {e : Expr} {d : Den} {pos pos' : Pos} (he : GE X W e d) (hN : X.N.Nodup) (hi : X.N[i]? = some x := by rfl) (hx : L2.Loc X.env.scope x := by first | exact Or.inl rfl | exact Or.inr rfl)
    (hs : swapsWith e (some (.Name x pos')) pos.line X.env = pure false := by rfl) (hf : X.fn x = true ∨ X.env.scope.names.lookup x = some .local := by first | exact .inl rfl | exact .inr rfl) : GS X W (.Assign [.Name x pos'] e pos) (sAsg d (gName i)) := by
  refine PS.imp (ps_set hN hi hx he hs hf) fun D σ H ⟨g, l, h, S, R, A⟩ => ?_
  exact tG_to S R A fun v h1 g1 H1 x E S1 R1 r1 A1 => A1 g1 H1 _ Ext.refl R1 (S1.set i r1)
end
end GH
set_option Elab.async false
set_option linter.all false
set_option maxRecDepth 100000
set_option maxHeartbeats 1000000
set_option autoImplicit false
/-! Operators, subscripts, lengths, truth, lists and dicts: what they yield on values. -/
namespace GH
open PySem PySem.Spec PyProof.Rows L2

/-! ### reading sequences -/
def lstOf (h : Hv) : Val → Option (List Val)
  | .lst l => some l
  | .ref i => match h[i]? with
    | some (.lst l) => some l
    | _ => none
  | _ => none
def seqOf (h : Hv) : Val → Option (List Val)
  | .tup l => some l
  | v => lstOf h v
def dicOf (h : Hv) : Val → Option (List (Val × Val))
  | .ref i => match h[i]? with
    | some (.dic l) => some l
    | _ => none
  | _ => none
section
variable {K : PySem.W.Frag} {g : Gh} {H : Hp} {h : Hv} {v : Val} {x : V} {l : List Val}
theorem ref_at (R : HR K g H h) {i : Nat} {o : Ob} {a : Addr} (e : h[i]? = some o) (hm : g.m[i]? = some a) : OR K g H a o := R.obj i o a e hm
theorem lstOf_ok (R : HR K g H h) (r : VR K g H v x) (e : lstOf h v = some l) : ∃ a xs, x = .ref a ∧ H a = some (.lst xs) ∧ VRs K g H l xs := by
  cases v with
  | lst k =>
    simp only [lstOf, Option.some.injEq] at e
    subst e
    simp only [VR] at r
    obtain ⟨a, xs, e, _, s, r⟩ := r
    exact ⟨a, xs, e, s, r⟩
  | ref i =>
    simp only [lstOf] at e
    split at e
    · rename_i l' hl
      cases e
      simp only [VR] at r
      obtain ⟨a, rfl, hm⟩ := r
      obtain ⟨xs, e1, e2⟩ := ref_at R hl hm
      exact ⟨a, xs, rfl, e1, e2⟩
    · cases e
  | _ => simp [lstOf] at e
theorem seqOf_ok (R : HR K g H h) (r : VR K g H v x) (e : seqOf h v = some l) : ∃ a xs, x = .ref a ∧ (SqL K H a xs ∨ SqT K H a xs) ∧ VRs K g H l xs := by
  cases v with
  | tup k =>
    simp only [seqOf, Option.some.injEq] at e
    subst e
    simp only [VR] at r
    obtain ⟨a, xs, e, s, r⟩ := r
    exact ⟨a, xs, e, .inr s, r⟩
  | lst k => obtain ⟨a, xs, e, s, r⟩ := lstOf_ok R r (by simpa [seqOf] using e); exact ⟨a, xs, e, .inl (SqL.of s), r⟩
  | ref i => obtain ⟨a, xs, e, s, r⟩ := lstOf_ok R r (by simpa [seqOf] using e); exact ⟨a, xs, e, .inl (SqL.of s), r⟩
  | _ => simp [seqOf, lstOf] at e
theorem dicOf_ok (R : HR K g H h) (r : VR K g H v x) {l : List (Val × Val)} (e : dicOf h v = some l) : ∃ i a ks, v = .ref i ∧ x = .ref a ∧ g.m[i]? = some a ∧ h[i]? = some (.dic l) ∧ H a = some (.dK ks) ∧ DR K g H l ks := by
  cases v with
  | ref i =>
    simp only [dicOf] at e
    split at e
    · rename_i l' hl
      cases e
      simp only [VR] at r
      obtain ⟨a, rfl, hm⟩ := r
      obtain ⟨ks, e1, e2⟩ := ref_at R hl hm
      exact ⟨i, a, ks, rfl, rfl, hm, hl, e1, e2⟩
    · cases e
  | _ => simp [dicOf] at e
/-- an object of ours is written -/
theorem HR.write (R : HR K g H h) {i : Nat} {a : Addr} {ob : Ob} {o' : HO} (hm : g.m[i]? = some a) (ok : Ext g H g (upd H a o') → OR K g (upd H a o') a ob) :
    Ext g H g (upd H a o') ∧ HR K g (upd H a o') (h.set i ob) := by
  have ha : a ∈ g.m := List.mem_of_getElem? hm
  have E : Ext g H g (upd H a o') := by
    refine ⟨⟨[], by simp, by simp⟩, rfl, fun b u e hb => ?_, fun b u e => ?_⟩
    · rw [upd_ne (show b ≠ a from fun z => hb (by rw [z]; exact ha))]; exact e
    · by_cases hb : b = a
      · subst hb; exact ⟨_, upd_same⟩
      · exact ⟨u, by rw [upd_ne hb]; exact e⟩
  refine ⟨E, by simp [R.len], R.nd, R.dis, fun b hb => ?_, fun j o b e1 e2 => ?_⟩
  · obtain ⟨ob, e, mu⟩ := R.al b hb
    exact ⟨ob, by rw [upd_ne (show b ≠ a from fun z => R.dis a ha (by rw [← z]; exact hb))]; exact e, mu⟩
  · by_cases hj : i = j
    · subst hj
      have hi : i < h.length := by rw [← R.len]; exact (List.getElem?_eq_some_iff.mp hm).1
      rw [List.getElem?_set_self hi] at e1
      cases e1
      rw [hm] at e2
      cases e2
      exact ok E
    · rw [List.getElem?_set_ne hj] at e1
      have hba : b ≠ a := by
        rintro rfl
        have h1 := (List.getElem?_eq_some_iff.mp hm)
        have h2 := (List.getElem?_eq_some_iff.mp e2)
        obtain ⟨l1, p1⟩ := h1
        obtain ⟨l2, p2⟩ := h2
        exact hj ((List.getElem_inj R.nd).mp (p1.trans p2.symm))
      have q := R.obj j o b e1 e2
      cases o with
      | lst l => obtain ⟨xs, e, r⟩ := q; exact ⟨xs, by rw [upd_ne hba]; exact e, r.ext R E⟩
      | dic l => obtain ⟨xs, e, r⟩ := q; exact ⟨xs, by rw [upd_ne hba]; exact e, r.1, r.2.ext R E⟩
      | ins c f => obtain ⟨dx, gs, e, r⟩ := q; exact ⟨dx, gs, by rw [upd_ne hba]; exact e, r.1, r.2.ext R E⟩
end

/-! ### arithmetic -/
def big64 (i : Int) : Bool := decide (-(2 ^ 64) < i) && decide (i < 2 ^ 64)
def vAdd (v u : Val) (h : Hv) : Res Val := match v, u with
  | .int i, .int j => .ok (.int (i + j)) h
  | .str a, .str b => if a.length + b.length ≤ lineN then .ok (.str (a ++ b)) h else .fail
  | .tup a, .tup b => if a.length + b.length ≤ lineN then .ok (.tup (a ++ b)) h else .fail
  | v, u => match lstOf h v, lstOf h u with
    | some a, some b => if a.length + b.length ≤ lineN then .ok (.lst (a ++ b)) h else .fail
    | _, _ => .fail
def vSub (v u : Val) (h : Hv) : Res Val := match v, u with
  | .int i, .int j => .ok (.int (i - j)) h
  | _, _ => .fail
def vMul (v u : Val) (h : Hv) : Res Val := match v, u with
  | .int i, .int j => if big64 i || big64 j then .ok (.int (i * j)) h else .fail
  | .lst l, .int k => if -(2 ^ 63) ≤ k ∧ k < 2 ^ 63 ∧ l.length * k.toNat ≤ lineN then .ok (.lst (List.replicate k.toNat l).flatten) h else .fail
  | _, _ => .fail
def vDiv (v u : Val) (h : Hv) : Res Val := match v, u with
  | .int i, .int j => if 0 < j ∧ j < 1073741824 then .ok (.int (i / j)) h else .fail
  | _, _ => .fail
def vMod (v u : Val) (h : Hv) : Res Val := match v, u with
  | .int i, .int j => if 0 < j then .ok (.int (i % j)) h else .fail
  | _, _ => .fail
def vPow (v u : Val) (h : Hv) : Res Val := match v, u with
  | .int i, .int j => if 0 ≤ j ∧ j ≤ 1000000 ∧ i.natAbs < 2 ^ 64 then .ok (.int (i ^ j.toNat)) h else .fail
  | _, _ => .fail
def vCmpI (p : Int → Int → Bool) (v u : Val) (h : Hv) : Res Val := match v, u with
  | .int i, .int j => .ok (.bl (p i j)) h
  | _, _ => .fail
section
variable {X : Cx}
theorem sOf_append (a b : List Nat) : sOf a ++ sOf b = sOf (a ++ b) := by
  show (⟨(sOf a).cps ++ (sOf b).cps⟩ : Str) = _
  simp [sOf]
theorem og_add : OpG X (binaryOp .Add) vAdd := by
  refine ⟨_, op_add.or (op_add_str.or (op_catA.or op_cat)), fun W g H h σ v u x y Q R rv ru A => ?_⟩
  have lists : ∀ (A : After X.K W (vr X.K) σ g H Q (match lstOf h v, lstOf h u with
    | some a, some b => if a.length + b.length ≤ lineN then .ok (.lst (a ++ b)) h else .fail
    | _, _ => .fail)), rCat x y H Q := by
    intro A
    split at A
    · rename_i a b e1 e2
      split at A
      · rename_i hl
        obtain ⟨p, xs, rfl, s1, r1⟩ := lstOf_ok R rv e1
        obtain ⟨q, ys, rfl, s2, r2⟩ := lstOf_ok R ru e2
        refine ⟨p, q, xs, ys, rfl, rfl, s1, s2, by rw [← r1.length, ← r2.length]; exact line_ok hl, fun b np => ?_⟩
        obtain ⟨E, R1⟩ := R.grow (o := .lst (xs ++ ys)) np
        refine A g _ (.ref b) E R1 ?_
        simp only [VR]
        exact ⟨b, _, rfl, R.fresh np, upd_same, (r1.append r2).ext R E⟩
      · exact A.elim
    · exact A.elim
  unfold vAdd at A
  split at A
  · simp only [VR] at rv ru
    subst rv ru
    exact .inl ⟨_, _, rfl, rfl, A g H _ Ext.refl R (by simp only [VR])⟩
  · rename_i a b
    simp only [VR] at rv ru
    subst rv ru
    split at A
    · rename_i hl
      exact .inr (.inl ⟨_, _, rfl, rfl, by rw [sOf_len, sOf_len]; exact line_ok hl, A g H _ Ext.refl R (by simp only [VR]; rw [sOf_append])⟩)
    · exact A.elim
  · rename_i a b
    split at A
    · rename_i hl
      simp only [VR] at rv ru
      obtain ⟨p, xs, rfl, s1, r1⟩ := rv
      obtain ⟨q, ys, rfl, s2, r2⟩ := ru
      refine .inr (.inr (.inl ⟨p, q, xs, ys, rfl, rfl, s1, s2, by rw [← r1.length, ← r2.length]; exact line_ok hl, fun e => ?_, fun e e' => ?_, fun _ _ b np => ?_⟩))
      · subst e
        refine A g H _ Ext.refl R ?_
        simp only [VR]
        exact ⟨q, ys, rfl, s2, by simpa using r1.append r2⟩
      · subst e'
        refine A g H _ Ext.refl R ?_
        simp only [VR]
        exact ⟨p, xs, rfl, s1, by simpa using r1.append r2⟩
      · obtain ⟨E, R1⟩ := R.grow (o := .tup (xs ++ ys)) np
        refine A g _ (.ref b) E R1 ?_
        simp only [VR]
        exact ⟨b, _, rfl, SqT.of upd_same, (r1.append r2).ext R E⟩
    · exact A.elim
  · exact .inr (.inr (.inr (lists A)))
theorem og_int {op : Value → Value → Sem Value} {C : Int → Int → Prop} {f : Int → Int → V} {d : Val → Val → Hv → Res Val} (ho : OpR X op (rI C f))
    (hd : ∀ (W : WX) (g : Gh) (H : Hp) (h : Hv) (σ : L2.St) (v u : Val) (Q : VK), HR X.K g H h → After X.K W (vr X.K) σ g H Q (d v u h) → ∃ i j, v = .int i ∧ u = .int j ∧ C i j ∧ Q (f i j) H) : OpG X op d := by
  refine ⟨_, ho, fun W g H h σ v u x y Q R rv ru A => ?_⟩
  obtain ⟨i, j, rfl, rfl, c, q⟩ := hd W g H h σ v u Q R A
  simp only [VR] at rv ru
  exact ⟨i, j, rv, ru, c, q⟩
theorem og_int0 {op : Value → Value → Sem Value} {f : Int → Int → V} {d : Val → Val → Hv → Res Val} (ho : OpR X op (rI0 f))
    (hd : ∀ (W : WX) (g : Gh) (H : Hp) (h : Hv) (σ : L2.St) (v u : Val) (Q : VK), HR X.K g H h → After X.K W (vr X.K) σ g H Q (d v u h) → ∃ i j, v = .int i ∧ u = .int j ∧ Q (f i j) H) : OpG X op d := by
  refine ⟨_, ho, fun W g H h σ v u x y Q R rv ru A => ?_⟩
  obtain ⟨i, j, rfl, rfl, q⟩ := hd W g H h σ v u Q R A
  simp only [VR] at rv ru
  exact ⟨i, j, rv, ru, q⟩
theorem og_sub : OpG X (binaryOp .Sub) vSub := og_int0 op_sub fun W g H h σ v u Q R A => by
  unfold vSub at A
  split at A
  · exact ⟨_, _, rfl, rfl, A g H _ Ext.refl R (by simp only [VR])⟩
  · exact A.elim
theorem og_div : OpG X (binaryOp .FloorDiv) vDiv := og_int op_fdiv fun W g H h σ v u Q R A => by
  unfold vDiv at A
  split at A
  · split at A
    · rename_i c
      exact ⟨_, _, rfl, rfl, c, A g H _ Ext.refl R (by simp only [VR])⟩
    · exact A.elim
  · exact A.elim
theorem og_mod : OpG X (binaryOp .Mod) vMod := og_int op_mod fun W g H h σ v u Q R A => by
  unfold vMod at A
  split at A
  · split at A
    · rename_i c
      exact ⟨_, _, rfl, rfl, c, A g H _ Ext.refl R (by simp only [VR])⟩
    · exact A.elim
  · exact A.elim
theorem og_pow : OpG X (binaryOp .Pow) vPow := og_int op_pow fun W g H h σ v u Q R A => by
  unfold vPow at A
  split at A
  · split at A
    · rename_i c
      exact ⟨_, _, rfl, rfl, c, A g H _ Ext.refl R (by simp only [VR])⟩
    · exact A.elim
  · exact A.elim
theorem big64_ok {i : Int} (h : big64 i = true) : -(2 ^ 64) < i ∧ i < 2 ^ 64 := by
  simpa [big64] using h
theorem og_mul : OpG X (binaryOp .Mult) vMul := by
  refine ⟨_, op_mul.or op_rep, fun W g H h σ v u x y Q R rv ru A => ?_⟩
  unfold vMul at A
  split at A
  · split at A
    · rename_i c
      simp only [VR] at rv ru
      subst rv ru
      refine .inl ⟨_, _, rfl, rfl, ?_, A g H _ Ext.refl R (by simp only [VR])⟩
      rcases Bool.or_eq_true_iff.mp c with c | c
      · exact .inl (big64_ok c)
      · exact .inr (big64_ok c)
    · exact A.elim
  · rename_i l k
    split at A
    · rename_i c
      simp only [VR] at rv ru
      subst ru
      obtain ⟨p, xs, rfl, n, s1, r1⟩ := rv
      refine .inr ⟨p, k, xs, rfl, rfl, s1, c.1, c.2.1, by rw [← r1.length]; exact line_ok c.2.2, fun b np => ?_⟩
      obtain ⟨E, R1⟩ := R.grow (o := .lst (List.replicate k.toNat xs).flatten) np
      refine A g _ (.ref b) E R1 ?_
      simp only [VR]
      refine ⟨b, _, rfl, R.fresh np, upd_same, ?_⟩
      have rep : ∀ n : Nat, VRs X.K g H (List.replicate n l).flatten (List.replicate n xs).flatten := by
        intro n
        induction n with
        | zero => simpa using VRs.nil
        | succ n ih => rw [List.replicate_succ, List.replicate_succ, List.flatten_cons, List.flatten_cons]; exact r1.append ih
      exact (rep _).ext R E
    · exact A.elim
  · exact A.elim
theorem og_cmpI {op : CmpOp} {p : Int → Int → Bool} (ho : OpR X (compareOp op) (rI0 fun i j => .bl (p i j))) : OpG X (compareOp op) (vCmpI p) := og_int0 ho fun W g H h σ v u Q R A => by
  unfold vCmpI at A
  split at A
  · exact ⟨_, _, rfl, rfl, A g H _ Ext.refl R (by simp only [VR])⟩
  · exact A.elim
abbrev vLt := vCmpI fun i j => decide (i < j)
abbrev vLe := vCmpI fun i j => decide (i ≤ j)
abbrev vGt := vCmpI fun i j => decide (j < i)
abbrev vGe := vCmpI fun i j => decide (j ≤ i)
theorem og_lt : OpG X (compareOp .Lt) vLt := og_cmpI op_lt
theorem og_le : OpG X (compareOp .LtE) vLe := og_cmpI op_le
theorem og_gt : OpG X (compareOp .Gt) vGt := og_cmpI op_gt
theorem og_ge : OpG X (compareOp .GtE) vGe := og_cmpI op_ge
def isNon : Val → Bool
  | .non => true
  | _ => false
def vIsN (v u : Val) (h : Hv) : Res Val := match u with
  | .non => .ok (.bl (isNon v)) h
  | _ => .fail
def vNotN (v u : Val) (h : Hv) : Res Val := match u with
  | .non => .ok (.bl (!isNon v)) h
  | _ => .fail
theorem VR.non_iff {K : PySem.W.Frag} {g : Gh} {H : Hp} {v : Val} {x : V} (r : VR K g H v x) : decide (x = .non) = isNon v := by
  cases v <;> simp only [VR] at r <;> first | (subst r; rfl) | (obtain ⟨_, _, _, rfl, _⟩ := r; rfl) | (obtain ⟨_, _, rfl, _⟩ := r; rfl) | (obtain ⟨_, rfl, _⟩ := r; rfl)
theorem og_isN : OpG X (compareOp .Is) vIsN := by
  refine ⟨_, op_isN, fun W g H h σ v u x y Q R rv ru A => ?_⟩
  unfold vIsN at A
  split at A
  · simp only [VR] at ru
    refine ⟨ru, ?_⟩
    rw [rv.non_iff]
    exact A g H _ Ext.refl R (by simp only [VR])
  · exact A.elim
theorem og_notN : OpG X (compareOp .IsNot) vNotN := by
  refine ⟨_, op_notN, fun W g H h σ v u x y Q R rv ru A => ?_⟩
  unfold vNotN at A
  split at A
  · simp only [VR] at ru
    refine ⟨ru, ?_⟩
    rw [rv.non_iff]
    exact A g H _ Ext.refl R (by simp only [VR])
  · exact A.elim
/-- -e -/
def dNeg (d : Den) : Den := fun l h => (d l h).bind fun v h1 => match v with
  | .int i => .ok (.int (-i)) h1
  | _ => .fail
theorem ge_neg {W : WX} {a : Expr} {d : Den} {pos : Pos} (ha : GE X W a d) : GE X W (.UnaryOp .USub a pos) (dNeg d) := by
  refine PE.imp (pe_un un_neg ha) fun σ H Q ⟨g, l, h, S, R, A⟩ => ?_
  refine tG_of S R A fun v h1 g1 H1 x E S1 R1 r1 A1 => ?_
  cases v with
  | int i =>
    simp only [VR] at r1
    exact ⟨i, r1, A1 g1 H1 _ Ext.refl R1 (by simp only [VR])⟩
  | _ => exact A1.elim

/-! ### dicts as lists of pairs -/
def kEq : Val → Val → Bool
  | .int i, .int j => decide (i = j)
  | .str a, .str b => decide (a = b)
  | _, _ => false
def dGet (l : List (Val × Val)) (k : Val) : Option Val := (l.find? fun p => kEq p.1 k).map (·.2)
def dPut (l : List (Val × Val)) (k v : Val) : List (Val × Val) := if (l.any fun p => kEq p.1 k) then l.map (fun p => if kEq p.1 k then (p.1, v) else p) else l ++ [(k, v)]
def dDrop (l : List (Val × Val)) (k : Val) : List (Val × Val) := l.filter fun p => !kEq p.1 k
theorem kEq_key {a b : Val} {ka kb : Key} (ha : keyOf a = some ka) (hb : keyOf b = some kb) : kEq a b = decide (ka = kb) := by
  cases a <;> simp only [keyOf, Option.some.injEq, reduceCtorEq] at ha <;> cases b <;> simp only [keyOf, Option.some.injEq, reduceCtorEq] at hb <;> subst ha hb
  · rename_i i j
    simp only [kEq]
    by_cases e : i = j
    · subst e; simp
    · rw [decide_eq_false e, decide_eq_false (fun z => e (Sum.inl.inj z))]
  · simp [kEq]
  · simp [kEq]
  · rename_i i j
    simp only [kEq]
    by_cases e : i = j
    · subst e; simp
    · rw [decide_eq_false e, decide_eq_false (fun z => e (sOf_inj (Sum.inr.inj z)))]
section
variable {K : PySem.W.Frag} {g : Gh} {H : Hp}
theorem DR.nil : DR K g H [] [] := ⟨rfl, VRs.nil⟩
theorem DR.inv {l : List (Val × Val)} {p : Val × Val} {ks : List (Key × V)} (r : DR K g H (p :: l) ks) : ∃ q ks', ks = q :: ks' ∧ keyOf p.1 = some q.1 ∧ VR K g H p.2 q.2 ∧ DR K g H l ks' := by
  obtain ⟨e, r⟩ := r
  cases ks with
  | nil => simp at e
  | cons q ks' =>
    simp only [List.map_cons, List.cons.injEq] at e
    simp only [List.map_cons, VRs] at r
    obtain ⟨x, r', e1, q1, q2⟩ := r
    cases e1
    exact ⟨q, ks', rfl, e.1, q1, e.2, q2⟩
theorem DR.cons {l : List (Val × Val)} {p : Val × Val} {ks : List (Key × V)} {q : Key × V} (e : keyOf p.1 = some q.1) (r : VR K g H p.2 q.2) (t : DR K g H l ks) : DR K g H (p :: l) (q :: ks) :=
  ⟨by simp [e, t.1], by simp only [List.map_cons]; exact .cons r t.2⟩
theorem DR.nilInv {ks : List (Key × V)} (r : DR K g H [] ks) : ks = [] := by
  obtain ⟨e, _⟩ := r
  cases ks with
  | nil => rfl
  | cons q ks' => simp at e
theorem DR.length : ∀ {l : List (Val × Val)} {ks : List (Key × V)}, DR K g H l ks → l.length = ks.length
  | [], ks, r => by rw [r.nilInv]; rfl
  | p :: l, ks, r => by obtain ⟨q, ks', rfl, _, _, t⟩ := r.inv; simp [DR.length t]
theorem DR.get {k : Val} {kk : Key} (hk : keyOf k = some kk) : ∀ {l : List (Val × Val)} {ks : List (Key × V)}, DR K g H l ks → (∀ v, dGet l k = some v → ∃ x, valV ks kk = some x ∧ VR K g H v x) ∧ (dGet l k = none → valV ks kk = none)
  | [], ks, r => by rw [r.nilInv]; exact ⟨fun v e => by simp [dGet] at e, fun _ => rfl⟩
  | p :: l, ks, r => by
    obtain ⟨q, ks', rfl, e, rv, t⟩ := r.inv
    have ih := DR.get hk t
    have ek := kEq_key e hk
    by_cases c : q.1 = kk
    · rw [decide_eq_true c] at ek
      have e1 : dGet (p :: l) k = some p.2 := by simp [dGet, ek]
      rw [e1, valV_pos c]
      exact ⟨fun v z => by cases z; exact ⟨_, rfl, rv⟩, fun z => by cases z⟩
    · rw [decide_eq_false c] at ek
      have e1 : dGet (p :: l) k = dGet l k := by simp [dGet, ek]
      rw [e1, valV_neg c]
      exact ih
theorem DR.any {k : Val} {kk : Key} (hk : keyOf k = some kk) : ∀ {l : List (Val × Val)} {ks : List (Key × V)}, DR K g H l ks → (l.any fun p => kEq p.1 k) = (ks.any fun kv => decide (kv.1 = kk))
  | [], ks, r => by rw [r.nilInv]; rfl
  | p :: l, ks, r => by
    obtain ⟨q, ks', rfl, e, rv, t⟩ := r.inv
    simp only [List.any_cons, kEq_key e hk, DR.any hk t]
theorem DR.repl {k v : Val} {kk : Key} {x : V} (hk : keyOf k = some kk) (rx : VR K g H v x) : ∀ {l : List (Val × Val)} {ks : List (Key × V)}, DR K g H l ks → DR K g H (l.map fun p => if kEq p.1 k then (p.1, v) else p) (ks.map fun kv => if kv.1 = kk then (kv.1, x) else kv)
  | [], ks, r => by rw [r.nilInv]; exact DR.nil
  | p :: l, ks, r => by
    obtain ⟨q, ks', rfl, e, rv, t⟩ := r.inv
    simp only [List.map_cons, kEq_key e hk]
    by_cases c : q.1 = kk
    · simp only [c, decide_true, if_true]
      exact .cons (by show keyOf p.1 = some kk; rw [e, c]) rx (DR.repl hk rx t)
    · simp only [c, decide_false, if_false, Bool.false_eq_true]
      exact .cons e rv (DR.repl hk rx t)
theorem DR.append {l l' : List (Val × Val)} {ks ks' : List (Key × V)} (a : DR K g H l ks) (b : DR K g H l' ks') : DR K g H (l ++ l') (ks ++ ks') :=
  ⟨by simp [a.1, b.1], by simpa using a.2.append b.2⟩
theorem DR.put {k v : Val} {kk : Key} {x : V} {l : List (Val × Val)} {ks : List (Key × V)} (r : DR K g H l ks) (hk : keyOf k = some kk) (rx : VR K g H v x) : DR K g H (dPut l k v) (putK ks kk x) := by
  unfold dPut putK
  rw [DR.any hk r]
  by_cases c : (ks.any fun kv => decide (kv.1 = kk)) = true
  · rw [if_pos c, if_pos c]
    exact DR.repl hk rx r
  · rw [if_neg c, if_neg c]
    exact r.append (.cons hk rx .nil)
theorem DR.drop {k : Val} {kk : Key} (hk : keyOf k = some kk) : ∀ {l : List (Val × Val)} {ks : List (Key × V)}, DR K g H l ks → DR K g H (dDrop l k) (dropK ks kk)
  | [], ks, r => by rw [r.nilInv]; exact DR.nil
  | p :: l, ks, r => by
    obtain ⟨q, ks', rfl, e, rv, t⟩ := r.inv
    unfold dDrop dropK
    have ih := DR.drop hk t
    unfold dDrop dropK at ih
    rw [List.filter_cons, List.filter_cons, kEq_key e hk]
    by_cases c : q.1 = kk
    · rw [if_neg (by simp [c]), if_neg (by simp [c])]
      exact ih
    · rw [if_pos (by simp [c]), if_pos (by simp [c])]
      exact .cons e rv ih
theorem key_V {v : Val} {x : V} {k : Key} (r : VR K g H v x) (e : keyOf v = some k) : x = kV k := by
  cases v <;> simp only [keyOf, Option.some.injEq, reduceCtorEq] at e <;> subst e <;> simp only [VR] at r <;> exact r
end

/-! ### a[b] -/
/-- the item at an index of any sign -/
def nth {α : Type} (l : List α) (i : Int) : Option α := if 0 ≤ i then l[i.toNat]? else if -(l.length : Int) ≤ i then l[(i + l.length).toNat]? else none
theorem nth_atI {α : Type} {l : List α} {i : Int} {v : α} (h : nth l i = some v) : atI l i = some v := by
  unfold nth at h
  unfold atI ixN
  split at h
  · rename_i h0
    have hl := (List.getElem?_eq_some_iff.mp h).1
    rw [if_pos h0, if_pos (by omega)]
    exact h
  · rename_i h0
    split at h
    · rename_i h1
      rw [if_neg h0, if_pos h1]
      exact h
    · cases h
theorem VRs.nth {K : PySem.W.Frag} {g : Gh} {H : Hp} {l : List Val} {xs : List V} {i : Int} {v : Val} (r : VRs K g H l xs) (h : GH.nth l i = some v) : ∃ x, atI xs i = some x ∧ VR K g H v x := by
  have hl := r.length
  unfold GH.nth at h
  split at h
  · rename_i h0
    obtain ⟨x, e, q⟩ := r.get h
    exact ⟨x, nth_atI (by unfold GH.nth; rw [if_pos h0]; exact e), q⟩
  · rename_i h0
    split at h
    · rename_i h1
      obtain ⟨x, e, q⟩ := r.get h
      exact ⟨x, nth_atI (by unfold GH.nth; rw [if_neg h0, if_pos (by omega), ← hl]; exact e), q⟩
    · cases h
def vIx (v u : Val) (h : Hv) : Res Val := match v with
  | .str s => match u with
    | .int i => if s.length ≤ lineN then (match nth s i with
      | some c => .ok (.str [c]) h
      | none => .fail) else .fail
    | _ => .fail
  | v => match seqOf h v with
    | some l => (match u with
      | .int i => (match nth l i with
        | some w => .ok w h
        | none => .fail)
      | _ => .fail)
    | none => match dicOf h v, keyOf u with
      | some l, some _ => (match dGet l u with
        | some w => .ok w h
        | none => .fail)
      | _, _ => .fail
def rIxD : R2 := fun x y H Q => ∃ a v, x = .ref a ∧ DGet H a y (some v) ∧ Q v H
theorem ix_dict (hu : X.A.units + 1 < cLine) : IxR X rIxD := by
  intro value slice pins s σ H x y v u Q I rx ry h hs
  obtain ⟨a, z, rfl, d, q⟩ := h
  obtain rfl : v = Value.ref a := rx
  exact tail_any (dict_typeIs I d) PySem.F.slot_dict_getitem.lookup (d_getItem hu I d ry fun w' s' I' r' => ⟨z, H, I', r', q⟩) hs
theorem vIx_ok {W : WX} {g : Gh} {H : Hp} {h : Hv} {σ : L2.St} {v u : Val} {x y : V} {Q : VK} (R : HR X.K g H h) (rv : VR X.K g H v x) (ru : VR X.K g H u y) (A : After X.K W (vr X.K) σ g H Q (vIx v u h)) : rIx X.K x y H Q ∨ rIxD x y H Q := by
  unfold vIx at A
  split at A
  · rename_i s
    split at A
    · rename_i i
      split at A
      · rename_i hl
        split at A
        · rename_i c e
          simp only [VR] at rv ru
          subst rv ru
          exact .inl (.inr (.inr ⟨_, i, c, rfl, rfl, by rw [sOf_len]; exact line_ok hl, by simpa [sOf] using nth_atI e, A g H _ Ext.refl R (by simp only [VR]; rfl)⟩))
        · exact A.elim
      · exact A.elim
    · exact A.elim
  · rename_i hns
    split at A
    · rename_i l hl
      obtain ⟨a, xs, rfl, s, r⟩ := seqOf_ok R rv hl
      split at A
      · rename_i i
        split at A
        · rename_i w e
          simp only [VR] at ru
          subst ru
          obtain ⟨z, e', rz⟩ := VRs.nth r e
          rcases s with s | s
          · exact .inl (.inl ⟨a, xs, i, z, rfl, rfl, s, e', A g H _ Ext.refl R rz⟩)
          · exact .inl (.inr (.inl ⟨a, xs, i, z, rfl, rfl, s, e', A g H _ Ext.refl R rz⟩))
        · exact A.elim
      · exact A.elim
    · split at A
      · rename_i l k hl hk
        split at A
        · rename_i w e
          obtain ⟨i, a, ks, rfl, rfl, hm, hi, ha, d⟩ := dicOf_ok R rv hl
          obtain ⟨z, e', rz⟩ := (DR.get hk d).1 w e
          refine .inr ⟨a, z, rfl, ?_, A g H _ Ext.refl R rz⟩
          rw [key_V ru hk, ← e']
          exact DGet.k ha
        · exact A.elim
      · exact A.elim
theorem ge_ix {W : WX} {a b : Expr} {da db : Den} {pos : Pos} (hu : X.A.units + 1 < cLine) (ha : GE X W a da) (hb : GE X W b db) (hs : PlainIx b := by exact fun _ _ => rfl) : GE X W (.Subscript a b pos) (dBin vIx da db) := by
  refine PE.imp (pe_ix (ix_seq.or (ix_dict hu)) ha hb hs) fun σ H Q ⟨g, l, h, S, R, A⟩ => ?_
  refine tG_of S R A fun v h1 g1 H1 x E S1 R1 r1 A1 => ?_
  refine tG_of S1 R1 A1 fun u h2 g2 H2 y E2 S2 R2 r2 A2 => ?_
  exact vIx_ok R2 (r1.ext R1 E2) r2 A2

/-! ### len, truth -/
def vLen (v : Val) (h : Hv) : Res Val := match v with
  | .str s => if s.length ≤ lineN then .ok (.int s.length) h else .fail
  | v => match seqOf h v with
    | some l => .ok (.int l.length) h
    | none => match dicOf h v with
      | some l => .ok (.int l.length) h
      | none => .fail
theorem call_lenG : CallR X (.builtin "len") (fun xs H Q => (∃ x n, xs = [x] ∧ LenV X.K x H n ∧ Q (.int n) H) ∨ ∃ a kvs, xs = [.ref a] ∧ Rd H a (.dK kvs) ∧ Q (.int kvs.length) H) := by
  intro pins s σ H xs us Q I r h
  rcases h with h | ⟨a, kvs, rfl, e, q⟩
  · exact call_len pins s σ H xs us Q I r h
  · obtain ⟨u, rfl, ru⟩ := vals1 r
    obtain rfl : u = Value.ref a := ru
    exact d_len I e fun t s' I' => ⟨.int kvs.length, H, I', ⟨_, rfl⟩, q⟩
def dLen (d : Den) : Den := fun l h => (d l h).bind vLen
theorem ge_len {W : WX} {e : Expr} {d : Den} {x : Str} {p pos : Pos} (he : GE X W e d) (hm : X.mg x = none) (hg : Gl X x := by rfl) (hv : bootBuiltins x = some (.builtin "len") := by decide +kernel) (hn : x ≠ "__name__" := by decide +kernel) (hdb : (x == ("__debug__" : Str)) = false := by decide +kernel)
    (hst : starEach [e] X.env = (false, eval e X.env) :: starEach [] X.env := by rfl) (hpl : (backTo pos (starEach [] X.env)).any (·.1) = false := by rfl) : GE X W (.Call (.Name x p) [e] [] pos) (dLen d) := by
  refine PE.imp (pe_callB call_lenG hg hm hv (pa_cons he pa_nil hst) hn hdb hst hpl) fun σ H Q ⟨g, l, h, S, R, A⟩ => ?_
  refine tG_of S R A fun v h1 g1 H1 x E S1 R1 r1 A1 => ?_
  show _ ∨ _
  unfold vLen at A1
  split at A1
  · rename_i s
    split at A1
    · rename_i hl
      simp only [VR] at r1
      subst r1
      exact .inl ⟨_, _, rfl, ⟨by rw [sOf_len]; exact line_ok hl, rfl⟩, by rw [sOf_len]; exact A1 g1 H1 _ Ext.refl R1 (by simp only [VR])⟩
    · exact A1.elim
  · split at A1
    · rename_i k hk
      obtain ⟨a, xs, rfl, s, r⟩ := seqOf_ok R1 r1 hk
      refine .inl ⟨_, xs.length, rfl, ?_, by rw [← r.length]; exact A1 g1 H1 _ Ext.refl R1 (by simp only [VR])⟩
      rcases s with s | s
      · exact .inl ⟨xs, s, rfl⟩
      · exact .inr ⟨xs, s, rfl⟩
    · split at A1
      · rename_i k hk
        obtain ⟨i, a, ks, rfl, rfl, hm, hi, ha, d⟩ := dicOf_ok R1 r1 hk
        exact .inr ⟨a, ks, rfl, .inl ha, by rw [← d.length]; exact A1 g1 H1 _ Ext.refl R1 (by simp only [VR])⟩
      · exact A1.elim
def vTru (v : Val) (h : Hv) : Res Bool := match v with
  | .non => .ok false h
  | .bl b => .ok b h
  | .int i => .ok (i != 0) h
  | .str s => if s.length ≤ lineN then .ok (!s.isEmpty) h else .fail
  | v => match seqOf h v with
    | some l => .ok (!l.isEmpty) h
    | none => match dicOf h v with
      | some l => .ok (!l.isEmpty) h
      | none => .fail
theorem isEmpty_len {α β : Type} {l : List α} {l' : List β} (h : l.length = l'.length) : l.isEmpty = l'.isEmpty := by
  cases l <;> cases l' <;> simp_all
theorem vTru_ok {W : WX} {g : Gh} {H : Hp} {h : Hv} {σ : L2.St} {v : Val} {x : V} {Q : Bool → Hp → Prop} (R : HR X.K g H h) (rv : VR X.K g H v x) (A : After X.K W br σ g H Q (vTru v h)) : ∃ k, TruV X.K x H k ∧ Q k H := by
  unfold vTru at A
  split at A
  · simp only [VR] at rv; subst rv; exact ⟨_, rfl, A g H _ Ext.refl R rfl⟩
  · simp only [VR] at rv; subst rv; exact ⟨_, rfl, A g H _ Ext.refl R rfl⟩
  · simp only [VR] at rv; subst rv; exact ⟨_, rfl, A g H _ Ext.refl R rfl⟩
  · rename_i s
    split at A
    · rename_i hl
      simp only [VR] at rv
      subst rv
      refine ⟨_, ⟨by rw [sOf_len]; exact line_ok hl, rfl⟩, ?_⟩
      rw [sOf_len]
      have e : ((s.length : Int) != 0) = !s.isEmpty := by cases s <;> simp <;> omega
      rw [e]
      exact A g H _ Ext.refl R rfl
    · exact A.elim
  · split at A
    · rename_i k hk
      obtain ⟨a, xs, rfl, s, r⟩ := seqOf_ok R rv hk
      refine ⟨!xs.isEmpty, ?_, by rw [← isEmpty_len r.length]; exact A g H _ Ext.refl R rfl⟩
      rcases s with s | s
      · exact .inl ⟨xs, s, rfl⟩
      · exact .inr (.inl ⟨xs, s, rfl⟩)
    · split at A
      · rename_i k hk
        obtain ⟨i, a, ks, rfl, rfl, hm, hi, ha, d⟩ := dicOf_ok R rv hk
        exact ⟨!ks.isEmpty, .inr (.inr ⟨ks, ha, rfl⟩), by rw [← isEmpty_len d.length]; exact A g H _ Ext.refl R rfl⟩
      · exact A.elim
def dTru (d : Den) : DenG Bool := fun l h => (d l h).bind vTru
theorem gt_tru {W : WX} {e : Expr} {d : Den} (he : GE X W e d) (hs : ∀ whole, isTrue e X.env whole = (do let v ← whole; standAt e.pos; holding [v] (truthy v)) := by intro _; rfl) : GT X W e (dTru d) := by
  refine PT.imp (pt_truth he hs) fun σ H Q ⟨g, l, h, S, R, A⟩ => ?_
  exact tG_of S R A fun v h1 g1 H1 x E S1 R1 r1 A1 => vTru_ok R1 r1 A1
end
end GH
set_option Elab.async false
set_option linter.all false
set_option maxRecDepth 100000
set_option maxHeartbeats 1000000
set_option autoImplicit false
/-! Loops and comprehensions. -/
namespace GH
open PySem PySem.Spec PyProof.Rows L2

/-- behind a loop's body -/
def SRes.turn (r : SRes) (k : Stm) : SRes := match r with
  | .nx l h => k l h
  | .ct l h => k l h
  | .bk l h => .nx l h
  | r => r
@[simp] theorem SRes.turn_nx (l : Loc) (h : Hv) (k : Stm) : (SRes.nx l h).turn k = k l h := rfl
@[simp] theorem SRes.turn_ct (l : Loc) (h : Hv) (k : Stm) : (SRes.ct l h).turn k = k l h := rfl
@[simp] theorem SRes.turn_bk (l : Loc) (h : Hv) (k : Stm) : (SRes.bk l h).turn k = .nx l h := rfl
@[simp] theorem SRes.turn_rt (v : Val) (h : Hv) (k : Stm) : (SRes.rt v h).turn k = .rt v h := rfl
@[simp] theorem SRes.turn_exc (e : Ex) (l : Loc) (h : Hv) (k : Stm) : (SRes.exc e l h).turn k = .exc e l h := rfl
@[simp] theorem SRes.turn_fail (k : Stm) : SRes.fail.turn k = .fail := rfl

/-! ### while -/
def whileN : Nat → DenG Bool → Stm → Stm
  | 0, _, _ => fun _ _ => .fail
  | n + 1, c, b => fun l h => (c l h).to l fun t h1 => if t = true then (b l h1).turn (whileN n c b) else .nx l h1
theorem whileN_mono (c : DenG Bool) (b : Stm) : ∀ (n : Nat) (l : Loc) (h : Hv), whileN n c b l h ≠ .fail → whileN (n + 1) c b l h = whileN n c b l h
  | 0, l, h, e => absurd rfl e
  | n + 1, l, h, e => by
    show (c l h).to l (fun t h1 => if t = true then (b l h1).turn (whileN (n + 1) c b) else .nx l h1) = (c l h).to l (fun t h1 => if t = true then (b l h1).turn (whileN n c b) else .nx l h1)
    have e : (c l h).to l (fun t h1 => if t = true then (b l h1).turn (whileN n c b) else .nx l h1) ≠ .fail := e
    cases ec : c l h with
    | ok t h1 =>
      rw [ec] at e
      simp only [Res.to_ok] at e ⊢
      cases t with
      | false => rfl
      | true =>
        simp only [if_true] at e ⊢
        cases eb : b l h1 with
        | nx l2 h2 => rw [eb] at e; exact whileN_mono c b n l2 h2 e
        | ct l2 h2 => rw [eb] at e; exact whileN_mono c b n l2 h2 e
        | bk l2 h2 => rfl
        | rt v h2 => rfl
        | exc x l2 h2 => rfl
        | fail => rfl
    | exc x h1 => rfl
    | fail => rfl
theorem whileN_le (c : DenG Bool) (b : Stm) {n : Nat} {l : Loc} {h : Hv} (e : whileN n c b l h ≠ .fail) : ∀ k, whileN (n + k) c b l h = whileN n c b l h
  | 0 => rfl
  | k + 1 => by
    have ih := whileN_le c b e k
    rw [← Nat.add_assoc, whileN_mono c b (n + k) l h (by rw [ih]; exact e), ih]
open Classical in
noncomputable def sWhile (c : DenG Bool) (b : Stm) : Stm := fun l h => if ex : ∃ n, whileN n c b l h ≠ .fail then whileN (Classical.choose ex) c b l h else .fail
theorem sWhile_of {c : DenG Bool} {b : Stm} {n : Nat} {l : Loc} {h : Hv} (e : whileN n c b l h ≠ .fail) : sWhile c b l h = whileN n c b l h := by
  have ex : ∃ n, whileN n c b l h ≠ .fail := ⟨n, e⟩
  unfold sWhile
  rw [dif_pos ex]
  have e' := Classical.choose_spec ex
  generalize Classical.choose ex = m at e'
  rcases Nat.le_total n m with q | q
  · obtain ⟨k, rfl⟩ := Nat.exists_eq_add_of_le q
    exact whileN_le c b e k
  · obtain ⟨k, rfl⟩ := Nat.exists_eq_add_of_le q
    exact (whileN_le c b e' k).symm
theorem sWhile_ne {c : DenG Bool} {b : Stm} {l : Loc} {h : Hv} (e : sWhile c b l h ≠ .fail) : ∃ n, whileN n c b l h ≠ .fail ∧ sWhile c b l h = whileN n c b l h := by
  unfold sWhile at e
  split at e
  · rename_i ex
    exact ⟨_, e, by unfold sWhile; rw [dif_pos ex]⟩
  · exact absurd rfl e
/-- the loop's own equation -/
theorem sWhile_eq (c : DenG Bool) (b : Stm) (l : Loc) (h : Hv) : sWhile c b l h = (c l h).to l fun t h1 => if t = true then (b l h1).turn (sWhile c b) else .nx l h1 := by
  cases ec : c l h with
  | exc x h1 =>
    have e : whileN 1 c b l h = .exc x l h1 := by show (c l h).to l _ = _; rw [ec]; rfl
    rw [sWhile_of (n := 1) (by rw [e]; exact fun z => nomatch z), e]
    rfl
  | fail =>
    by_cases e : sWhile c b l h = .fail
    · rw [e]; rfl
    · obtain ⟨n, e1, e2⟩ := sWhile_ne e
      cases n with
      | zero => exact absurd rfl e1
      | succ n => exact absurd (by show (c l h).to l _ = _; rw [ec]; rfl) e1
  | ok t h1 =>
    simp only [Res.to_ok]
    cases t with
    | false =>
      have e : whileN 1 c b l h = .nx l h1 := by show (c l h).to l _ = _; rw [ec]; rfl
      rw [sWhile_of (n := 1) (by rw [e]; exact fun z => nomatch z), e]
      rfl
    | true =>
      simp only [if_true]
      have step : ∀ n, whileN (n + 1) c b l h = (b l h1).turn (whileN n c b) := fun n => by show (c l h).to l _ = _; rw [ec]; rfl
      have ends : ∀ r : SRes, r ≠ .fail → (∀ k, (b l h1).turn k = r) → sWhile c b l h = (b l h1).turn (sWhile c b) := fun r nr hr => by
        rw [sWhile_of (n := 1) (by rw [step, hr]; exact nr), step, hr, hr]
      have goes : ∀ l2 h2, (∀ k : Stm, (b l h1).turn k = k l2 h2) → sWhile c b l h = (b l h1).turn (sWhile c b) := fun l2 h2 hk => by
        rw [hk]
        by_cases e : sWhile c b l2 h2 = .fail
        · rw [e]
          by_cases e' : sWhile c b l h = .fail
          · exact e'
          · obtain ⟨n, e1, e2⟩ := sWhile_ne e'
            cases n with
            | zero => exact absurd rfl e1
            | succ n =>
              rw [step, hk] at e1
              exact absurd (sWhile_of e1 ▸ e) e1
        · obtain ⟨n, e1, e2⟩ := sWhile_ne e
          rw [sWhile_of (n := n + 1) (by rw [step, hk]; exact e1), step, hk, e2]
      cases eb : b l h1 with
      | nx l2 h2 => rw [← eb]; exact goes l2 h2 fun k => by rw [eb]; rfl
      | ct l2 h2 => rw [← eb]; exact goes l2 h2 fun k => by rw [eb]; rfl
      | bk l2 h2 => rw [← eb]; exact ends (.nx l2 h2) (fun z => nomatch z) fun k => by rw [eb]; rfl
      | rt v h2 => rw [← eb]; exact ends (.rt v h2) (fun z => nomatch z) fun k => by rw [eb]; rfl
      | exc x l2 h2 => rw [← eb]; exact ends (.exc x l2 h2) (fun z => nomatch z) fun k => by rw [eb]; rfl
      | fail =>
        show sWhile c b l h = .fail
        by_cases e : sWhile c b l h = .fail
        · exact e
        · obtain ⟨n, e1, e2⟩ := sWhile_ne e
          cases n with
          | zero => exact absurd rfl e1
          | succ n => exact absurd (by rw [step, eb]; rfl) e1
section
variable {X : Cx} {W : WX}
theorem gs_while {c : Expr} {body : List Stmt} {dc : DenG Bool} {db : Stm} {pos : Pos} (hp : PassesOwn (model X.prog X.w) X.A X.env X.xe) (hc : GT X W c dc) (hb : GSs X W body db) : GS X W (.While c body [] pos) (sWhile dc db) := by
  refine PS.imp (ps_while hp hc hb) fun D σ H ⟨g, l, h, S, R, A⟩ => ?_
  have nf : sWhile dc db l h ≠ .fail := fun e => by rw [e] at A; exact A
  obtain ⟨n0, e0, e1⟩ := sWhile_ne nf
  rw [e1] at A
  refine ⟨fun m σ H => ∃ g l h, SR X.K g H l σ ∧ HR X.K g H h ∧ AfterS X.K W g H D (whileN m dc db l h), ⟨n0, g, l, h, S, R, A⟩, ?_⟩
  rintro m σ H ⟨g, l, h, S, R, A⟩
  cases m with
  | zero => exact A.elim
  | succ m =>
    have A : AfterS X.K W g H D ((dc l h).to l fun t h1 => if t = true then (db l h1).turn (whileN m dc db) else .nx l h1) := A
    refine tG_to S R A fun t h1 g1 H1 x E S1 R1 r1 A1 => ?_
    obtain rfl : t = x := r1
    cases t with
    | false => exact A1 g1 H1 σ Ext.refl R1 S1
    | true =>
      simp only [if_true] at A1 ⊢
      refine ⟨fun σ' H' => ∃ g l h, SR X.K g H' l σ' ∧ HR X.K g H' h ∧ AfterS X.K W g H' D (whileN m dc db l h), fun σ' H' q => ⟨m, Nat.lt_succ_self m, q⟩, g1, l, h1, S1, R1, ?_⟩
      cases eb : db l h1 with
      | nx l2 h2 => rw [eb] at A1; exact fun g' H' σ' E' R' S' => ⟨g', l2, h2, S', R', AfterS.ext E' A1⟩
      | ct l2 h2 => rw [eb] at A1; exact fun g' H' σ' E' R' S' => ⟨g', l2, h2, S', R', AfterS.ext E' A1⟩
      | bk l2 h2 => rw [eb] at A1; exact A1
      | rt v h2 => rw [eb] at A1; exact A1
      | exc x l2 h2 => rw [eb] at A1; exact A1
      | fail => rw [eb] at A1; exact A1

/-! ### what is walked -/
/-- the items, and the object of ours that must stay as it is -/
abbrev Src := List Val × Option Nat
def srcOk (s : Src) (h : Hv) : Prop := match s.2 with
  | none => True
  | some j => h[j]? = some (.lst s.1)
/-- the iterator J serves these items -/
def Serves (K : PySem.W.Frag) (J : It) (g0 : Gh) (H0 : Hp) (s : Src) : Prop := ∀ g H h, ExtS g0 H0 g H → HR K g H h → srcOk s h → ∀ i,
  (∀ v, s.1[i]? = some v → J.go i H ∧ ∀ x H', J.yld i H x H' → Ext g H g H' ∧ HR K g H' h ∧ VR K g H' v x) ∧ (i = s.1.length → J.stop i H)
/-- what follows an iterator -/
def AfterI (K : PySem.W.Frag) (W : WX) (σ : L2.St) (g : Gh) (H : Hp) (R : It → Hp → Prop) : Res Src → Prop
  | .ok s h' => srcOk s h' ∧ ∀ g' H' J, Ext g H g' H' → HR K g' H' h' → s.1.length ≤ sizeLine → Serves K J g' H' s → R J H'
  | .exc e h' => ∀ g' H' cls d, Ext g H g' H' → HR K g' H' h' → ER K g' H' e cls d → W cls d σ H'
  | .fail => False
def tI (K : PySem.W.Frag) (W : WX) (d : DenG Src) : TI := fun σ H R => ∃ g l h, SR K g H l σ ∧ HR K g H h ∧ AfterI K W σ g H R (d l h)
def GI (X : Cx) (W : WX) (tg iter : Expr) (d : DenG Src) : Prop := PI X tg iter (tI X.K W d)
theorem PI.imp {tg e : Expr} {t t' : TI} (p : PI X tg e t) (h : ∀ pins s σ H R, Inv X pins σ H s → t' σ H R → t σ H R) : PI X tg e t' := ⟨fun pins s σ H R I q => p.run pins s σ H R I (h pins s σ H R I q)⟩
theorem PI.or {tg e : Expr} {t t' : TI} (p : PI X tg e t) (p' : PI X tg e t') : PI X tg e fun σ H R => t σ H R ∨ t' σ H R := ⟨fun pins s σ H R I q => by
  rcases q with q | q
  · exact p.run pins s σ H R I q
  · exact p'.run pins s σ H R I q⟩

/-! ### for -/
open Classical in
noncomputable def forL (t : Tg) (b : Stm) (s : Src) : List Val → Stm
  | [] => fun l h => if srcOk s h then .nx l h else .fail
  | x :: r => fun l h => if srcOk s h then (match t x l h with
    | .ok l1 h1 => (b l1 h1).turn (forL t b s r)
    | .exc e l1 h1 => .exc e l1 h1
    | .fail => .fail) else .fail
noncomputable def sFor (di : DenG Src) (t : Tg) (b : Stm) : Stm := fun l h => (di l h).to l fun s h1 => forL t b s s.1 l h1
theorem gs_for {tg iter : Expr} {body : List Stmt} {di : DenG Src} {t : Tg} {db : Stm} {pos : Pos} (hp : PassesOwn (model X.prog X.w) X.A X.env X.xe) (hc : X.calm = true) (hi : GI X W tg iter di) (hg : GG X W tg t) (hb : GSs X W body db)
    (hs : ∀ x, foldedSetIterable iter X.env x = pure x := by intro _; rfl) : GS X W (.For tg iter body [] pos) (sFor di t db) := by
  refine PS.imp (ps_for hp hc hi hg hb hs) fun D σ H ⟨g, l, h, S, R, A⟩ => ?_
  refine ⟨g, l, h, S, R, ?_⟩
  unfold sFor at A
  unfold AfterI
  cases e : di l h with
  | exc x h1 => rw [e] at A; exact fun g' H' c d E' R' r => A g' H' σ c d E' R' (S.ext R E') r
  | fail => rw [e] at A; exact A
  | ok s h1 =>
    rw [e] at A
    simp only [Res.to_ok] at A
    have ok1 : srcOk s h1 := by
      cases hs1 : s.1 with
      | nil =>
        rw [hs1] at A
        simp only [forL] at A
        split at A
        · assumption
        · exact A.elim
      | cons x r =>
        rw [hs1] at A
        simp only [forL] at A
        split at A
        · assumption
        · exact A.elim
    refine ⟨ok1, fun g1 H1 J E1 R1 hz sv => ?_⟩
    refine ⟨fun i m σ H => ∃ g l h, Ext g1 H1 g H ∧ SR X.K g H l σ ∧ HR X.K g H h ∧ m = s.1.length - i ∧ i ≤ s.1.length ∧ AfterS X.K W g H D (forL t db s (s.1.drop i) l h), ⟨s.1.length, g1, l, h1, Ext.refl, S.ext R E1, R1, by simp, Nat.zero_le _, by simpa using AfterS.ext E1 A⟩, ?_⟩
    rintro i m σ H ⟨g, l, h, E, S, R, rfl, hil, A⟩
    cases hd : s.1.drop i with
    | nil =>
      have hle : s.1.length ≤ i := List.drop_eq_nil_iff.mp hd
      rw [hd] at A
      simp only [forL] at A
      split at A
      · rename_i ok
        exact .inl ⟨(sv g H h E.s R ok i).2 (Nat.le_antisymm hil hle), A g H σ Ext.refl R S⟩
      · exact A.elim
    | cons v r =>
      have hlt : i < s.1.length := by
        by_cases q : i < s.1.length
        · exact q
        · rw [List.drop_eq_nil_iff.mpr (by omega)] at hd; cases hd
      have hv : s.1[i]? = some v := by
        have q := congrArg List.head? hd
        rw [List.head?_drop] at q
        simpa using q
      have hr : s.1.drop (i + 1) = r := by
        have q := congrArg List.tail hd
        rw [List.tail_drop] at q
        simpa using q
      rw [hd] at A
      simp only [forL] at A
      split at A
      · rename_i ok
        obtain ⟨go, yl⟩ := (sv g H h E.s R ok i).1 v hv
        refine .inr ⟨go, fun σ' H' => ∃ g l h, Ext g1 H1 g H' ∧ SR X.K g H' l σ' ∧ HR X.K g H' h ∧ i + 1 ≤ s.1.length ∧ AfterS X.K W g H' D (forL t db s (s.1.drop (i + 1)) l h), fun σ' H' ⟨g, l, h, q1, q2, q3, q4, q5⟩ => ⟨s.1.length - (i + 1), by omega, g, l, h, q1, q2, q3, rfl, q4, q5⟩, fun x H' y => ?_⟩
        obtain ⟨E2, R2, rx⟩ := yl x H' y
        refine ⟨g, l, h, v, S.ext R E2, R2, rx, ?_⟩
        have A2 := AfterS.ext E2 A
        cases et : t v l h with
        | exc x l1 h1 => rw [et] at A2; exact A2
        | fail => rw [et] at A2; exact A2
        | ok l2 h2 =>
          rw [et] at A2
          simp only at A2
          intro g3 H3 σ3 E3 R3 S3
          refine ⟨g3, l2, h2, S3, R3, ?_⟩
          have A3 := AfterS.ext E3 A2
          have E03 := (E.trans E2).trans E3
          cases eb : db l2 h2 with
          | nx l4 h4 => rw [eb] at A3; exact fun g' H' σ' E' R' S' => ⟨g', l4, h4, E03.trans E', S', R', hlt, by rw [hr]; exact AfterS.ext E' A3⟩
          | ct l4 h4 => rw [eb] at A3; exact fun g' H' σ' E' R' S' => ⟨g', l4, h4, E03.trans E', S', R', hlt, by rw [hr]; exact AfterS.ext E' A3⟩
          | bk l4 h4 => rw [eb] at A3; exact A3
          | rt v4 h4 => rw [eb] at A3; exact A3
          | exc x4 l4 h4 => rw [eb] at A3; exact A3
          | fail => rw [eb] at A3; exact A3
      · exact A.elim
end
end GH
set_option Elab.async false
set_option linter.all false
set_option maxRecDepth 100000
set_option maxHeartbeats 1000000
set_option autoImplicit false
/-! What may be walked; list comprehensions. -/
namespace GH
open PySem PySem.Spec PyProof.Rows L2

section
variable {K : PySem.W.Frag} {g0 g : Gh} {H0 H : Hp}
theorem sqL_ext {a : Addr} {xs : List V} {h : Hv} (R : HR K g0 H0 h) (E : ExtS g0 H0 g H) (na : ¬ g0.own a) (s : SqL K H0 a xs) : SqL K H a xs := by
  rcases s with s | s
  · exact .inl (E.rd na s)
  · exact .inr s
theorem sqT_ext {a : Addr} {xs : List V} {h : Hv} (R : HR K g0 H0 h) (E : ExtS g0 H0 g H) (s : SqT K H0 a xs) : SqT K H a xs := by
  rcases s with s | s
  · exact .inl (E.rd (R.tup_own s) s)
  · exact .inr s
/-- a walk whose items stay -/
theorem serves_of {J : It} {items : List Val} {src : Option Nat} {n : Nat} (hn : n = items.length)
    (hw : ∀ g H h, ExtS g0 H0 g H → HR K g H h → srcOk (items, src) h → ∃ (G : Hp → Prop) (Y : Nat → Hp → V → Hp → Prop), Walk J n G Y ∧ G H ∧ ∀ i x H' v, items[i]? = some v → Y i H x H' → Ext g H g H' ∧ HR K g H' h ∧ VR K g H' v x) : Serves K J g0 H0 (items, src) := by
  intro g H h E R ok i
  obtain ⟨G, Y, w, gh, hy⟩ := hw g H h E R ok
  refine ⟨fun v hv => ?_, fun hi => ?_⟩
  · have hi : i < n := by rw [hn]; exact (List.getElem?_eq_some_iff.mp hv).1
    exact ⟨w.goes i H hi gh, fun x H' y => hy i x H' v hv (w.yields i H x H' hi gh y)⟩
  · rw [hi]
    show J.stop items.length H
    rw [← hn]
    exact w.stops H gh
theorem serves_list {a : Addr} {xs : List V} {items : List Val} {h : Hv} (R0 : HR K g0 H0 h) (na : ¬ g0.own a) (s : SqL K H0 a xs) (r : VRs K g0 H0 items xs) : Serves K (Itl K a) g0 H0 (items, none) :=
  serves_of (n := xs.length) r.length.symm fun g H h E R _ => ⟨_, _, walk_list, sqL_ext R0 E na s, fun i x H' v hv y => by
    obtain ⟨rfl, e⟩ := y
    obtain ⟨z, e1, e2⟩ := r.get hv
    rw [e] at e1; cases e1
    exact ⟨Ext.refl, R, e2.extS R0 E⟩⟩
theorem serves_fz {a : Addr} {xs : List V} {items : List Val} {h : Hv} (R0 : HR K g0 H0 h) (s : FzL K H0 a xs) (r : VRs K g0 H0 items xs) : Serves K (Itl K a) g0 H0 (items, none) :=
  serves_of (n := xs.length) r.length.symm fun g H h E R _ => ⟨_, _, walk_list, (s.imp fun o s => E.keep _ _ s (R0.not_own s fun z => z)).sq, fun i x H' v hv y => by
    obtain ⟨rfl, e⟩ := y
    obtain ⟨z, e1, e2⟩ := r.get hv
    rw [e] at e1; cases e1
    exact ⟨Ext.refl, R, e2.extS R0 E⟩⟩
theorem serves_tup {a : Addr} {xs : List V} {items : List Val} {h : Hv} (R0 : HR K g0 H0 h) (s : SqT K H0 a xs) (r : VRs K g0 H0 items xs) : Serves K (Itt K a) g0 H0 (items, none) :=
  serves_of (n := xs.length) r.length.symm fun g H h E R _ => ⟨_, _, walk_tup, sqT_ext R0 E s, fun i x H' v hv y => by
    obtain ⟨rfl, e⟩ := y
    obtain ⟨z, e1, e2⟩ := r.get hv
    rw [e] at e1; cases e1
    exact ⟨Ext.refl, R, e2.extS R0 E⟩⟩
/-- a list of ours that must stay -/
theorem serves_ref {a : Addr} {items : List Val} {j : Nat} (hm : g0.m[j]? = some a) : Serves K (Itl K a) g0 H0 (items, some j) :=
  serves_of (n := items.length) rfl fun g H h E R ok => by
    have ok : h[j]? = some (.lst items) := ok
    obtain ⟨t, em, _⟩ := E.m
    have hm' : g.m[j]? = some a := by rw [em, List.getElem?_append_left (List.getElem?_eq_some_iff.mp hm).1]; exact hm
    obtain ⟨xs, e1, r⟩ := ref_at R ok hm'
    refine ⟨fun H => SqL K H a xs, YAt xs, by rw [r.length]; exact walk_list, SqL.of e1, fun i x H' v hv y => ?_⟩
    obtain ⟨rfl, e⟩ := y
    obtain ⟨z, e1, e2⟩ := r.get hv
    rw [e] at e1; cases e1
    exact ⟨Ext.refl, R, e2⟩
theorem serves_str {z : List Nat} : Serves K (Its (sOf z)) g0 H0 (z.map fun c => .str [c], none) :=
  serves_of (n := (sOf z).cps.size) (by simp [sOf]) fun g H h E R _ => ⟨_, _, walk_str, trivial, fun i x H' v hv y => by
    obtain ⟨rfl, c, e, rfl⟩ := y
    rw [List.getElem?_map] at hv
    simp [sOf] at e
    rw [e] at hv
    simp at hv
    subst hv
    exact ⟨Ext.refl, R, by simp only [VR]; rfl⟩⟩
/-- lo, lo + 1, .. -/
def rangeL (lo : Int) (n : Nat) : List Val := (List.range n).map fun i => .int (lo + (i : Nat))
theorem serves_range {lo : Int} {n : Nat} : Serves K (Itr lo n) g0 H0 (rangeL lo n, none) :=
  serves_of (n := n) (by simp [rangeL]) fun g H h E R _ => ⟨_, _, walk_range, trivial, fun i x H' v hv y => by
    obtain ⟨rfl, rfl⟩ := y
    unfold rangeL at hv
    rw [List.getElem?_map] at hv
    by_cases hi : i < n
    · rw [List.getElem?_range hi] at hv
      simp at hv
      subst hv
      exact ⟨Ext.refl, R, by simp only [VR]⟩
    · rw [List.getElem?_eq_none (by simp; omega)] at hv
      cases hv⟩
/-- pairs of two lists' items, each a new tuple -/
theorem serves_pair {J : It} {xs ys : List V} {l k : List Val} {n : Nat} {G : Hp → Prop} {h : Hv} (R0 : HR K g0 H0 h) (hn : n = (l.zip k).length) (w : Walk J n G (YPair (fun i => xs[i]?) (fun i => ys[i]?))) (hG : ∀ g H, ExtS g0 H0 g H → G H) (r : VRs K g0 H0 l xs) (q : VRs K g0 H0 k ys) :
    Serves K J g0 H0 ((l.zip k).map fun p => .tup [p.1, p.2], none) :=
  serves_of (n := n) (by simpa using hn) fun g H h E R _ => ⟨_, _, w, hG g H E, fun i x H' v hv y => by
    obtain ⟨T, x1, y1, rfl, nT, rfl, e1, e2⟩ := y
    rw [List.getElem?_map] at hv
    cases ez : (l.zip k)[i]? with
    | none => rw [ez] at hv; cases hv
    | some p =>
      rw [ez] at hv
      simp at hv
      subst hv
      obtain ⟨f1, f2⟩ := List.getElem?_zip_eq_some.mp ez
      obtain ⟨a1, b1, c1⟩ := r.get f1
      obtain ⟨a2, b2, c2⟩ := q.get f2
      have e1 : xs[i]? = some x1 := e1
      have e2 : ys[i]? = some y1 := e2
      rw [e1] at b1; cases b1
      rw [e2] at b2; cases b2
      obtain ⟨E1, R1⟩ := R.grow (o := .tup [x1, y1]) nT
      refine ⟨E1, R1, ?_⟩
      simp only [VR]
      exact ⟨T, _, rfl, SqT.of upd_same, .cons ((c1.extS R0 E).ext R E1) (.cons ((c2.extS R0 E).ext R E1) .nil)⟩⟩
end
/-! ### for x in e -/
def vIter (v : Val) (h : Hv) : Res Src := match v with
  | .tup l => .ok (l, none) h
  | .lst l => .ok (l, none) h
  | .fz l => .ok (l, none) h
  | .str s => if s.length ≤ lineN then .ok (s.map (fun c => .str [c]), none) h else .fail
  | .ref i => match h[i]? with
    | some (.lst l) => .ok (l, some i) h
    | _ => .fail
  | _ => .fail
def iSeq (d : Den) : DenG Src := fun l h => (d l h).bind vIter
/-- from an expression's result on, for what walks -/
theorem tG_I {K : PySem.W.Frag} {W : WX} {σ : L2.St} {g : Gh} {H : Hp} {l : Loc} {h : Hv} {α β : Type} {rel : Gh → Hp → α → β → Prop} {d : DenG α} {k : α → Hv → Res Src} {R : It → Hp → Prop} {R' : β → Hp → Prop} (S : SR K g H l σ) (hr : HR K g H h)
    (A : AfterI K W σ g H R ((d l h).bind k))
    (hk : ∀ v h1 g1 H1 x, Ext g H g1 H1 → SR K g1 H1 l σ → HR K g1 H1 h1 → rel g1 H1 v x → AfterI K W σ g1 H1 R (k v h1) → R' x H1) : tG K W rel d σ H R' := by
  refine ⟨g, l, h, S, hr, ?_⟩
  cases e : d l h with
  | ok v h1 =>
    rw [e] at A
    simp only [Res.bind_ok] at A
    intro g' H' x E R1 r
    refine hk v h1 g' H' x E (S.ext hr E) R1 r ?_
    cases ek : k v h1 with
    | ok s h2 => rw [ek] at A; exact ⟨A.1, fun g2 H2 J E2 => A.2 g2 H2 J (E.trans E2)⟩
    | exc x h2 => rw [ek] at A; exact fun g2 H2 c d E2 => A g2 H2 c d (E.trans E2)
    | fail => rw [ek] at A; exact A
  | exc x h1 => rw [e] at A; exact A
  | fail => rw [e] at A; exact A
section
variable {X : Cx} {W : WX}
theorem gi_seq {tg e : Expr} {d : Den} (he : GE X W e d) : GI X W tg e (iSeq d) := by
  refine ⟨fun pins s σ H R I ⟨g, l, h, S, Rh, A⟩ => ?_⟩
  have start : tG X.K W (vr X.K) d σ H fun x H1 => ∃ v h1 g1, HR X.K g1 H1 h1 ∧ VR X.K g1 H1 v x ∧ AfterI X.K W σ g1 H1 R (vIter v h1) :=
    tG_I S Rh A fun v h1 g1 H1 x E S1 R1 r1 A1 => ⟨v, h1, g1, R1, r1, A1⟩
  refine thn (he.run pins s σ H _ I start) fun u s1 ⟨x, H1, I1, r1, v, h1, g1, R1, rv, A1⟩ => ?_
  have lists : ∀ a xs items, x = .ref a → ¬ g1.own a → SqL X.K H1 a xs → VRs X.K g1 H1 items xs → AfterI X.K W σ g1 H1 R (.ok (items, none) h1) → wpAny (model X.prog X.w) X.A (pyIter u) (PIE X pins σ tg R) X.xe s1 := by
    rintro a xs items rfl na hq r A1
    cases r1
    obtain ⟨its, rv, p, hz⟩ := I1.list hq
    refine wpAny_pyIter_list p.isList (pi_one (tk := s1.toks) I1 _ (turn_list _ _) ⟨_, Heap.get?_push_size _ rfl, rfl, rfl⟩ (A1.2 g1 H1 _ Ext.refl R1 (by show items.length ≤ _; rw [r.length]; exact hz) (serves_list R1 na hq r)))
  cases v with
  | tup items =>
    simp only [VR] at rv
    obtain ⟨a, xs, rfl, hq, r⟩ := rv
    cases r1
    obtain ⟨its, rv, p, hz⟩ := I1.tuple hq
    exact wpAny_pyIter_tuple (show s1.heap.IsTuple a its.toArray from p) (pi_one (tk := s1.toks) I1 _ (turn_tuple _ _) ⟨_, Heap.get?_push_size _ rfl, rfl, rfl⟩ (A1.2 g1 H1 _ Ext.refl R1 (by show items.length ≤ _; rw [r.length]; exact hz) (serves_tup R1 hq r)))
  | lst items =>
    simp only [VR] at rv
    obtain ⟨a, xs, rfl, na, hq, r⟩ := rv
    exact lists a xs items rfl na (SqL.of hq) r A1
  | fz items =>
    simp only [VR] at rv
    obtain ⟨a, xs, rfl, hq, r⟩ := rv
    cases r1
    obtain ⟨its, rv, p, hz⟩ := I1.list hq.sq
    exact wpAny_pyIter_list p.isList (pi_one (tk := s1.toks) I1 _ (turn_list _ _) ⟨_, Heap.get?_push_size _ rfl, rfl, rfl⟩ (A1.2 g1 H1 _ Ext.refl R1 (by show items.length ≤ _; rw [r.length]; exact hz) (serves_fz R1 hq r)))
  | str z =>
    simp only [VR] at rv
    subst rv
    obtain ⟨t, rfl⟩ := r1
    simp only [vIter] at A1
    split at A1
    · rename_i hz
      have q := A1.2 g1 H1 _ Ext.refl R1 (by simpa using line_ok hz) serves_str
      cases ha : (sOf z).cps.all (· < 128)
      · exact wpAny_pyIter_wide ha (pi_one (tk := s1.toks) I1 _ (turn_str _ _ t "str_iterator" (.inr rfl)) ⟨_, Heap.get?_push_size _ rfl, rfl, rfl⟩ q)
      · exact wpAny_pyIter_ascii ha (pi_one (tk := s1.toks) I1 _ (turn_str _ _ t "str_ascii_iterator" (.inl rfl)) ⟨_, Heap.get?_push_size _ rfl, rfl, rfl⟩ q)
    · exact A1.elim
  | ref i =>
    simp only [vIter] at A1
    split at A1
    · rename_i items hi
      simp only [VR] at rv
      obtain ⟨a, rfl, hm⟩ := rv
      obtain ⟨xs, e1, r⟩ := ref_at R1 hi hm
      cases r1
      obtain ⟨its, rv, p, hz⟩ := I1.list (SqL.of e1)
      exact wpAny_pyIter_list p.isList (pi_one (tk := s1.toks) I1 _ (turn_list _ _) ⟨_, Heap.get?_push_size _ rfl, rfl, rfl⟩ (A1.2 g1 H1 _ Ext.refl R1 (by show items.length ≤ _; rw [r.length]; exact hz) (serves_ref hm)))
    · exact A1.elim
  | _ => exact A1.elim
/-! ### range -/
def vRange1 (v : Val) (h : Hv) : Res Src := match v with
  | .int j => if -(2 ^ 62) ≤ j ∧ j ≤ 16777216 then .ok (rangeL 0 j.toNat, none) h else .fail
  | _ => .fail
def vRange2 (v u : Val) (h : Hv) : Res Src := match v, u with
  | .int i, .int j => if -(2 ^ 62) ≤ i ∧ i < 2 ^ 62 ∧ -(2 ^ 62) ≤ j ∧ j < 2 ^ 62 ∧ j - i ≤ 16777216 then .ok (rangeL i (j - i).toNat, none) h else .fail
  | _, _ => .fail
def iRange1 (d : Den) : DenG Src := fun l h => (d l h).bind vRange1
def iRange2 (a b : Den) : DenG Src := fun l h => (a l h).bind fun v h1 => (b l h1).bind fun u h2 => vRange2 v u h2
theorem rangeL_len (lo : Int) (n : Nat) : (rangeL lo n).length = n := by simp [rangeL]
theorem gi_range1 {tg a : Expr} {d : Den} {p pos : Pos} (he : GE X W a d) (hm : X.mg "range" = none) (hg : Gl X "range" := by rfl) (hs : starEach [a] X.env = (false, eval a X.env) :: starEach [] X.env := by rfl) (hs1 : starEach [a] X.env = [(false, eval a X.env)] := by rfl) : GI X W tg (.Call (.Name "range" p) [a] [] pos) (iRange1 d) := by
  refine PI.imp (pi_range1 hg hm (pa_cons he pa_nil hs) hs1) fun pins s σ H R I ⟨g, l, h, S, Rh, A⟩ => ?_
  refine tG_I S Rh A fun v h1 g1 H1 x E S1 R1 r1 A1 => ?_
  cases v with
  | int j =>
    simp only [VR] at r1
    subst r1
    simp only [vRange1] at A1
    split at A1
    · rename_i c
      exact ⟨j, rfl, c.1, by omega, A1.2 g1 H1 _ Ext.refl R1 (by show (rangeL 0 j.toNat).length ≤ _; rw [rangeL_len, sizeLine_eq]; omega) serves_range⟩
    · exact A1.elim
  | _ => exact A1.elim
theorem gi_range2 {tg a b : Expr} {da db : Den} {p pos : Pos} (ha : GE X W a da) (hb : GE X W b db) (hm : X.mg "range" = none) (hg : Gl X "range" := by rfl) (hs : starEach [a, b] X.env = (false, eval a X.env) :: starEach [b] X.env := by rfl) (hs1 : starEach [a, b] X.env = [(false, eval a X.env), (false, eval b X.env)] := by rfl)
    (hs2 : starEach [b] X.env = (false, eval b X.env) :: starEach [] X.env := by rfl) (hs3 : starEach [b] X.env = [(false, eval b X.env)] := by rfl) : GI X W tg (.Call (.Name "range" p) [a, b] [] pos) (iRange2 da db) := by
  refine PI.imp (pi_range2 hg hm (pa_cons ha (pa_cons hb pa_nil hs2) hs) hs1 hs3) fun pins s σ H R I ⟨g, l, h, S, Rh, A⟩ => ?_
  refine tG_I S Rh A fun v h1 g1 H1 x E S1 R1 r1 A1 => ?_
  refine tG_I S1 R1 A1 fun u h2 g2 H2 y E2 S2 R2 r2 A2 => ?_
  cases v with
  | int i =>
    cases u with
    | int j =>
      simp only [VR] at r1 r2
      subst r1 r2
      simp only [vRange2] at A2
      split at A2
      · rename_i c
        exact ⟨i, j, rfl, ⟨c.1, c.2.1, c.2.2.1, c.2.2.2.1⟩, A2.2 g2 H2 _ Ext.refl R2 (by show (rangeL i (j - i).toNat).length ≤ _; rw [rangeL_len, sizeLine_eq]; omega) serves_range⟩
      · exact A2.elim
    | _ => exact A2.elim
  | _ => exact A2.elim

/-! ### comprehensions -/
/-- the target of a comprehension: it writes the block's own slots alone -/
def tTc (K : PySem.W.Frag) (vs : List Nat) (d : Tg) : TG := fun x σ H Q => ∃ g l h v, SR K g H l σ ∧ HR K g H h ∧ VR K g H v x ∧ match d v l h with
  | .ok l' h' => ∀ g' H' σ', Ext g H g' H' → HR K g' H' h' → SR K g' H' l' σ' → wipe σ' vs = wipe σ vs → Q σ' H'
  | _ => False
def tTcs (K : PySem.W.Frag) (vs : List Nat) (d : Tgs) : TGs := fun x σ H Q => ∃ g l h v, SR K g H l σ ∧ HR K g H h ∧ VRs K g H v x ∧ match d v l h with
  | .ok l' h' => ∀ g' H' σ', Ext g H g' H' → HR K g' H' h' → SR K g' H' l' σ' → wipe σ' vs = wipe σ vs → Q σ' H'
  | _ => False
def GC (X : Cx) (vs : List Nat) (tg : Expr) (d : Tg) : Prop := PG X tg (tTc X.K vs d)
def GCs (X : Cx) (vs : List Nat) (tg : List Expr) (d : Tgs) : Prop := PGs X tg (tTcs X.K vs d)
theorem wipe_set : ∀ {vs : List Nat} {σ : L2.St} {i : Nat} {x : Option V}, i ∈ vs → wipe (σ.set i x) vs = wipe σ vs
  | [], _, _, _, h => nomatch h
  | v :: vs, σ, i, x, h => by
    unfold wipe
    by_cases hi : i ∈ vs
    · rw [wipe_set hi]
    · have hv : i = v := by
        rcases List.mem_cons.mp h with h | h
        · exact h
        · exact absurd h hi
      subst hv
      have gen : ∀ (us : List Nat), wipe (σ.set i x) us = (wipe σ us).set i x ∨ wipe (σ.set i x) us = wipe σ us := by
        intro us
        induction us with
        | nil => exact .inl rfl
        | cons u us ih =>
          unfold wipe
          rcases ih with e | e
          · rw [e]
            by_cases hu : i = u
            · subst hu; right; rw [List.set_set]
            · left; rw [List.set_comm _ _ hu]
          · right; rw [e]
      rcases gen vs with e | e
      · rw [e, List.set_set]
      · rw [e]
theorem gc_name (i : Nat) {x : Str} {pos : Pos} {vs : List Nat} (hN : X.N.Nodup) (hv : i ∈ vs := by decide) (hi : X.N[i]? = some x := by rfl) (hx : L2.Loc X.env.scope x := by first | exact Or.inl rfl | exact Or.inr rfl) (hf : X.fn x = true ∨ X.env.scope.names.lookup x = some .local := by first | exact .inl rfl | exact .inr rfl) : GC X vs (.Name x pos) (gName i) := by
  refine PG.imp (pg_name hN hi hx hf) fun y σ H Q ⟨g, l, h, v, S, R, r, A⟩ => ?_
  exact A g H _ Ext.refl R (S.set i r) (wipe_set hv)
theorem gcs_nil {vs : List Nat} : GCs X vs [] gsNil := by
  refine PGs.imp pgs_nil fun y σ H Q ⟨g, l, h, v, S, R, r, A⟩ => ?_
  cases v with
  | nil =>
    simp only [VRs] at r
    exact ⟨r, A g H σ Ext.refl R S rfl⟩
  | cons v vs => exact A.elim
theorem gcs_cons {vs : List Nat} {e : Expr} {es : List Expr} {t : Tg} {u : Tgs} (h1 : GC X vs e t) (h2 : GCs X vs es u)
    (hs : (assignEach (e :: es) X.env).map (·.2) = assign e X.env :: (assignEach es X.env).map (·.2) := by rfl) : GCs X vs (e :: es) (gsCons t u) := by
  refine PGs.imp (pgs_cons h1 h2 hs) fun y σ H Q ⟨g, l, h, v, S, R, r, A⟩ => ?_
  cases v with
  | nil => exact A.elim
  | cons v ws =>
    simp only [VRs] at r
    obtain ⟨x, r', rfl, q1, q2⟩ := r
    refine ⟨x, r', rfl, g, l, h, v, S, R, q1, ?_⟩
    simp only [gsCons] at A
    cases e : t v l h with
    | ok l1 h1 =>
      rw [e] at A
      simp only [TRes.bind_ok] at A
      intro g' H' σ' E R' S' w
      refine ⟨g', l1, h1, ws, S', R', q2.ext R E, ?_⟩
      cases e2 : u ws l1 h1 with
      | ok l2 h2 =>
        rw [e2] at A
        exact fun g2 H2 σ2 E2 R2 S2 w2 => A g2 H2 σ2 (E.trans E2) R2 S2 (w2.trans w)
      | exc x l1 h1 => rw [e2] at A; exact A
      | fail => rw [e2] at A; exact A
    | exc x l1 h1 => rw [e] at A; exact A
    | fail => rw [e] at A; exact A
theorem gc_tup {vs : List Nat} {es : List Expr} {k : Nat} {t : Tgs} {n : Nat} {pos : Pos} (hc : X.calm = true) (h : GCs X vs es t)
    (hn : (assignEach es X.env).length = n := by rfl) (hst : (assignEach es X.env).findIdx? (·.1) = none := by rfl) : GC X vs (.Tuple es k pos) (gTup n t) := by
  refine PG.imp (pg_tup hc h hn hst) fun y σ H Q ⟨g, l, h, v, S, R, r, A⟩ => ?_
  cases v with
  | tup ws =>
    simp only [VR] at r
    obtain ⟨a, xs, rfl, q1, q2⟩ := r
    unfold gTup at A
    simp only at A
    split at A
    · rename_i l' h' e
      split at e
      · rename_i hl2
        exact ⟨a, xs, rfl, q1, by rw [← q2.length]; exact hl2, g, l, h, ws, S, R, q2, by rw [e]; exact A⟩
      · cases e
    · exact A.elim
  | _ => exact A.elim
end
end GH
set_option Elab.async false
set_option linter.all false
set_option maxRecDepth 100000
set_option maxHeartbeats 1000000
set_option autoImplicit false
/-! List comprehensions, one clause. -/
namespace GH
open PySem PySem.Spec PyProof.Rows L2

section
variable {K : PySem.W.Frag} {g : Gh} {H : Hp} {D : Addr} {ds zs : HO}
mutual
theorem VR.reset (hD : D ∈ g.r) (e0 : H D = some ds) (mu : Mut (some ds)) : ∀ {v : Val} {x : V}, VR K g H v x → VR K g (upd H D zs) v x
  | .non, x, q => by simpa only [VR] using q
  | .bl b, x, q => by simpa only [VR] using q
  | .int i, x, q => by simpa only [VR] using q
  | .str s, x, q => by simpa only [VR] using q
  | .tup l, x, q => by
    simp only [VR] at q ⊢
    obtain ⟨a, xs, e, s, r⟩ := q
    refine ⟨a, xs, e, ?_, VRs.reset hD e0 mu r⟩
    rcases s with (s | ⟨o, s⟩) | s
    · exact .inl (.inl (by rw [upd_ne (show a ≠ D by rintro rfl; rw [e0] at s; cases s; exact mu)]; exact s))
    · exact .inl (.inr ⟨o, by rw [upd_ne (show a ≠ D by rintro rfl; rw [e0] at s; cases s; exact mu)]; exact s⟩)
    · exact .inr s
  | .lst l, x, q => by
    simp only [VR] at q ⊢
    obtain ⟨a, xs, e, n, s, r⟩ := q
    exact ⟨a, xs, e, n, by rw [upd_ne (show a ≠ D by rintro rfl; exact n (.inr hD))]; exact s, VRs.reset hD e0 mu r⟩
  | .fz l, x, q => by
    simp only [VR] at q ⊢
    obtain ⟨a, xs, e, s, r⟩ := q
    exact ⟨a, xs, e, s.imp fun o s => by rw [upd_ne (show a ≠ D by rintro rfl; rw [e0] at s; cases s; exact mu)]; exact s, VRs.reset hD e0 mu r⟩
  | .ref i, x, q => by simpa only [VR] using q
theorem VRs.reset (hD : D ∈ g.r) (e0 : H D = some ds) (mu : Mut (some ds)) : ∀ {l : List Val} {xs : List V}, VRs K g H l xs → VRs K g (upd H D zs) l xs
  | [], xs, q => by simpa only [VRs] using q
  | v :: l, xs, q => by
    simp only [VRs] at q ⊢
    obtain ⟨x, r, e, q1, q2⟩ := q
    exact ⟨x, r, e, VR.reset hD e0 mu q1, VRs.reset hD e0 mu q2⟩
end
theorem HR.reset {h : Hv} (R : HR K g H h) (hD : D ∈ g.r) (e0 : H D = some ds) (mu : Mut (some ds)) (mz : Mut (some zs)) : HR K g (upd H D zs) h := by
  refine ⟨R.len, R.nd, R.dis, fun a ha => ?_, fun i o a e1 e2 => ?_⟩
  · by_cases q : a = D
    · subst q; exact ⟨_, upd_same, mz⟩
    · obtain ⟨ob, e, mo⟩ := R.al a ha
      exact ⟨ob, by rw [upd_ne q]; exact e, mo⟩
  · have hne : a ≠ D := fun z => R.dis a (List.mem_of_getElem? e2) (by rw [z]; exact hD)
    have q := R.obj i o a e1 e2
    cases o with
    | lst l => obtain ⟨xs, e, r⟩ := q; exact ⟨xs, by rw [upd_ne hne]; exact e, r.reset hD e0 mu⟩
    | dic l => obtain ⟨xs, e, r⟩ := q; exact ⟨xs, by rw [upd_ne hne]; exact e, r.1, r.2.reset hD e0 mu⟩
    | ins c f => obtain ⟨dx, gs, e, r⟩ := q; exact ⟨dx, gs, by rw [upd_ne hne]; exact e, r.1, r.2.reset hD e0 mu⟩
theorem Ext.reset {g' : Gh} {H' : Hp} {xs : HO} (E : Ext g H g' H') (hD : D ∉ g.m) (e0 : H D = some ds) : Ext g (upd H D xs) g' (upd H' D xs) := by
  obtain ⟨t, em, n⟩ := E.m
  refine ⟨⟨t, em, fun b hb => ?_⟩, E.r, fun b o e hb => ?_, fun b o e => ?_⟩
  · have hne : b ≠ D := by rintro rfl; rw [n _ hb] at e0; cases e0
    rw [upd_ne hne]; exact n b hb
  · by_cases q : b = D
    · subst q; rw [upd_same] at e ⊢; exact e
    · rw [upd_ne q] at e ⊢; exact E.keep b o e hb
  · by_cases q : b = D
    · subst q; exact ⟨_, upd_same⟩
    · rw [upd_ne q] at e ⊢; exact E.there b o e
mutual
theorem VR.own {g' : Gh} {t : List Addr} (hm : g'.m = g.m ++ t) (ho : ∀ a, ¬ g.own a → ¬ g'.own a) : ∀ {v : Val} {x : V}, VR K g H v x → VR K g' H v x
  | .non, x, q => by simpa only [VR] using q
  | .bl b, x, q => by simpa only [VR] using q
  | .int i, x, q => by simpa only [VR] using q
  | .str s, x, q => by simpa only [VR] using q
  | .tup l, x, q => by
    simp only [VR] at q ⊢
    obtain ⟨a, xs, e, s, r⟩ := q
    exact ⟨a, xs, e, s, VRs.own hm ho r⟩
  | .lst l, x, q => by
    simp only [VR] at q ⊢
    obtain ⟨a, xs, e, n, s, r⟩ := q
    exact ⟨a, xs, e, ho a n, s, VRs.own hm ho r⟩
  | .fz l, x, q => by
    simp only [VR] at q ⊢
    obtain ⟨a, xs, e, s, r⟩ := q
    exact ⟨a, xs, e, s, VRs.own hm ho r⟩
  | .ref i, x, q => by
    simp only [VR] at q ⊢
    obtain ⟨a, e, h⟩ := q
    exact ⟨a, e, by rw [hm, List.getElem?_append_left (List.getElem?_eq_some_iff.mp h).1]; exact h⟩
theorem VRs.own {g' : Gh} {t : List Addr} (hm : g'.m = g.m ++ t) (ho : ∀ a, ¬ g.own a → ¬ g'.own a) : ∀ {l : List Val} {xs : List V}, VRs K g H l xs → VRs K g' H l xs
  | [], xs, q => by simpa only [VRs] using q
  | v :: l, xs, q => by
    simp only [VRs] at q ⊢
    obtain ⟨x, r, e, q1, q2⟩ := q
    exact ⟨x, r, e, VR.own hm ho q1, VRs.own hm ho q2⟩
end
theorem HR.less {r' : List Addr} {h : Hv} (R : HR K g H h) (hr : ∀ b ∈ r', b ∈ g.r) : HR K ⟨g.m, r'⟩ H h := by
  have hm : (Gh.mk g.m r').m = g.m ++ [] := by simp
  have ho : ∀ a, ¬ g.own a → ¬ (Gh.mk g.m r').own a := fun a n z => n (z.elim .inl fun z => .inr (hr a z))
  refine ⟨R.len, R.nd, fun a ha z => R.dis a ha (hr a z), fun a ha => R.al a (hr a ha), fun i o a e1 e2 => ?_⟩
  have q := R.obj i o a e1 e2
  cases o with
  | lst l => obtain ⟨xs, e, r⟩ := q; exact ⟨xs, e, r.own hm ho⟩
  | dic l => obtain ⟨xs, e, r⟩ := q; exact ⟨xs, e, r.1, r.2.own hm ho⟩
  | ins c f => obtain ⟨dx, gs, e, r⟩ := q; exact ⟨dx, gs, e, r.1, r.2.own hm ho⟩
theorem SR.extS {g' : Gh} {H' : Hp} {h : Hv} {l : Loc} {σ : L2.St} (S : SR K g H l σ) (R : HR K g H h) (E : ExtS g H g' H') : SR K g' H' l σ :=
  ⟨S.len, fun i v e => by obtain ⟨x, e1, e2⟩ := S.at_ i v e; exact ⟨x, e1, e2.extS R E⟩⟩
/-- the slots of the block's own names forgotten -/
def wipeL (l : Loc) : List Nat → Loc
  | [] => l
  | v :: vs => (wipeL l vs).set v none
theorem wipeL_some {l : Loc} {i : Nat} {x : Val} : ∀ {vs : List Nat}, (wipeL l vs)[i]? = some (some x) → l[i]? = some (some x) ∧ i ∉ vs
  | [], h => ⟨h, by simp⟩
  | v :: vs, h => by
    unfold wipeL at h
    by_cases hi : v = i
    · subst hi
      by_cases hv : v < (wipeL l vs).length
      · rw [List.getElem?_set_self hv] at h; cases h
      · rw [List.getElem?_eq_none (by simpa using hv)] at h; cases h
    · rw [List.getElem?_set_ne hi] at h
      obtain ⟨h1, h2⟩ := wipeL_some h
      exact ⟨h1, by simp only [List.mem_cons, not_or]; exact ⟨fun e => hi e.symm, h2⟩⟩
theorem wipeL_len (l : Loc) : ∀ vs, (wipeL l vs).length = l.length
  | [] => rfl
  | v :: vs => by unfold wipeL; rw [List.length_set, wipeL_len l vs]
theorem SR.wipe {l : Loc} {σ : L2.St} (S : SR K g H l σ) (vs : List Nat) : SR K g H (wipeL l vs) (L2.wipe σ vs) := by
  refine ⟨by rw [wipeL_len, L2.wipe_length, S.len], fun i v e => ?_⟩
  obtain ⟨e1, n⟩ := wipeL_some e
  obtain ⟨x, e2, r⟩ := S.at_ i v e1
  exact ⟨x, by rw [L2.wipe_out n]; exact e2, r⟩
theorem wipe_wipe {σ : L2.St} {vs : List Nat} : ∀ {us : List Nat}, (∀ u ∈ us, u ∈ vs) → L2.wipe (L2.wipe σ us) vs = L2.wipe σ vs
  | [], _ => rfl
  | u :: us, h => by
    show L2.wipe ((L2.wipe σ us).set u none) vs = _
    rw [wipe_set (h u (List.mem_cons_self ..)), wipe_wipe fun w hw => h w (List.mem_cons_of_mem _ hw)]
end

/-! ### the block -/
open Classical in
noncomputable def lcL (t : Tg) (c : DenG Bool) (e : Den) (s : Src) : List Val → List Val → Loc → Hv → Res (List Val)
  | [], acc, _, h => if srcOk s h then .ok acc h else .fail
  | x :: r, acc, l, h => if srcOk s h then (match t x l h with
    | .ok l1 h1 => (match c l1 h1 with
      | .ok b h2 => if b = true then (match e l1 h2 with
        | .ok v h3 => lcL t c e s r (acc ++ [v]) l h3
        | _ => .fail) else lcL t c e s r acc l h2
      | _ => .fail)
    | _ => .fail) else .fail
/-- what becomes of the items: a list that nobody writes, or one of ours -/
def frozen (ys : List Val) (h : Hv) : Res Val := .ok (.lst ys) h
def ours (ys : List Val) (h : Hv) : Res Val := .ok (.ref h.length) (h ++ [.lst ys])
noncomputable def dLc (fin : List Val → Hv → Res Val) (vs : List Nat) (di : DenG Src) (t : Tg) (c : DenG Bool) (e : Den) : Den := fun l h => (di l h).bind fun s h1 => (lcL t c e s s.1 [] (wipeL l vs) h1).bind fin
def W0 : WX := fun _ _ _ _ => False
/-- what a list at a new place may become -/
def FinOk (K : PySem.W.Frag) (fin : List Val → Hv → Res Val) : Prop := ∀ {W : WX} {σ : L2.St} {g1 g2 : Gh} {H1 H : Hp} {h : Hv} {Q : VK} {D : Addr} {ys : List Val} {xs : List V},
  H1 D = none → (∀ b ∈ g1.r, ∃ o, H1 b = some o) → D ∈ g2.r → g2.r = D :: g1.r → H D = some (.lst xs) → Ext g1 H1 ⟨g2.m, g1.r⟩ H → HR K g2 H h → VRs K g2 H ys xs → After K W (vr K) σ g1 H1 Q (fin ys h) → Q (.ref D) H
theorem fin_frozen {K : PySem.W.Frag} : FinOk K frozen := by
  intro W σ g1 g2 H1 H h Q D ys xs nD al hD er eD E R r A
  have hr : ∀ b ∈ g1.r, b ∈ g2.r := fun b hb => by rw [er]; exact List.mem_cons_of_mem _ hb
  refine A ⟨g2.m, g1.r⟩ H (.ref D) E (R.less hr) ?_
  simp only [VR]
  refine ⟨D, xs, rfl, ?_, eD, r.own (g' := ⟨g2.m, g1.r⟩) (t := []) (by simp) (show ∀ a, ¬ g2.own a → ¬ (Gh.mk g2.m g1.r).own a from fun a n z => n (z.elim .inl fun z => .inr (hr a z)))⟩
  rintro (z | z)
  · exact R.dis D z hD
  · obtain ⟨o, e⟩ := al D z
    rw [nD] at e; cases e
theorem fin_ours {K : PySem.W.Frag} : FinOk K ours := by
  intro W σ g1 g2 H1 H h Q D ys xs nD al hD er eD E R r A
  have hr : ∀ b ∈ g1.r, b ∈ g2.r := fun b hb => by rw [er]; exact List.mem_cons_of_mem _ hb
  have nm : D ∉ g2.m := fun z => R.dis D z hD
  have nr : D ∉ g1.r := fun z => by obtain ⟨o, e⟩ := al D z; rw [nD] at e; cases e
  obtain ⟨t, em, n⟩ := E.m
  have em : g2.m = g1.m ++ t := em
  have E' : Ext g1 H1 ⟨g2.m ++ [D], g1.r⟩ H := ⟨⟨t ++ [D], by show g2.m ++ [D] = _; rw [em, List.append_assoc], fun b hb => by
    rcases List.mem_append.mp hb with hb | hb
    · exact n b hb
    · rw [List.mem_singleton.mp hb]; exact nD⟩, rfl, E.keep, E.there⟩
  have hm : (Gh.mk (g2.m ++ [D]) g1.r).m = g2.m ++ [D] := rfl
  have ho : ∀ a, ¬ g2.own a → ¬ (Gh.mk (g2.m ++ [D]) g1.r).own a := fun a ha z => by
    rcases z with z | z
    · rcases List.mem_append.mp z with z | z
      · exact ha (.inl z)
      · exact ha (.inr (by rw [List.mem_singleton.mp z]; exact hD))
    · exact ha (.inr (hr a z))
  refine A ⟨g2.m ++ [D], g1.r⟩ H (.ref D) E' ⟨by simp [R.len], ?_, fun a ha => ?_, fun a ha => R.al a (hr a ha), fun i o a e1 e2 => ?_⟩ ?_
  · show (g2.m ++ [D]).Nodup
    refine List.nodup_append.mpr ⟨R.nd, by simp, fun a ha b hb => ?_⟩
    rw [List.mem_singleton.mp hb]
    rintro rfl
    exact nm ha
  · have ha : a ∈ g2.m ++ [D] := ha
    rcases List.mem_append.mp ha with ha | ha
    · exact fun z => R.dis a ha (hr a z)
    · rw [List.mem_singleton.mp ha]; exact nr
  · have e2 : (g2.m ++ [D])[i]? = some a := e2
    by_cases hi : i < h.length
    · rw [List.getElem?_append_left hi] at e1
      rw [List.getElem?_append_left (by rw [R.len]; exact hi)] at e2
      have q := R.obj i o a e1 e2
      cases o with
      | lst l => obtain ⟨xs, e, r⟩ := q; exact ⟨xs, e, r.own hm ho⟩
      | dic l => obtain ⟨xs, e, r⟩ := q; exact ⟨xs, e, r.1, r.2.own hm ho⟩
      | ins c f => obtain ⟨dx, gs, e, r⟩ := q; exact ⟨dx, gs, e, r.1, r.2.own hm ho⟩
    · have hi' : i = h.length := by
        have := (List.getElem?_eq_some_iff.mp e1).1
        simp at this
        omega
      subst hi'
      rw [List.getElem?_append_right (Nat.le_refl _)] at e1
      rw [List.getElem?_append_right (by rw [R.len]; exact Nat.le_refl _)] at e2
      simp at e1
      rw [R.len] at e2
      simp at e2
      subst e1 e2
      exact ⟨xs, eD, r.own hm ho⟩
  · simp only [VR]
    refine ⟨D, rfl, ?_⟩
    show (g2.m ++ [D])[h.length]? = some D
    rw [← R.len]
    simp
section
variable {K : PySem.W.Frag}
theorem lc_red {W : WX} {fin : List Val → Hv → Res Val} (hfin : FinOk K fin) {vs : List Nat} {di : DenG Src} {t : Tg} {c : DenG Bool} {e : Den} {σ : L2.St} {H : Hp} {Q : VK} (z : tG K W (vr K) (dLc fin vs di t c e) σ H Q) :
    tLc (tI K W di) (tTc K vs t) (tG K W0 br c) (tG K W0 (vr K) e) vs σ H Q := by
  obtain ⟨g, l, h, S, R, A⟩ := z
  refine ⟨g, l, h, S, R, ?_⟩
  unfold dLc at A
  unfold AfterI
  cases ed : di l h with
  | exc x h1 => rw [ed] at A; exact A
  | fail => rw [ed] at A; exact A
  | ok s h1 =>
    rw [ed] at A
    simp only [Res.bind_ok] at A
    have ok1 : srcOk s h1 := by
      cases hs1 : s.1 with
      | nil =>
        rw [hs1] at A
        simp only [lcL] at A
        split at A
        · assumption
        · exact A.elim
      | cons x r =>
        rw [hs1] at A
        simp only [lcL] at A
        split at A
        · assumption
        · exact A.elim
    refine ⟨ok1, fun g1 H1 J E1 R1 hz sv D nD => ?_⟩
    have A := After.ext E1 A
    have al : ∀ b ∈ g1.r, ∃ o, H1 b = some o := fun b hb => R1.own_there (.inr hb)
    have S1 := S.ext R E1
    -- the new list is put aside
    have ES : ExtS g1 H1 ⟨g1.m, D :: g1.r⟩ (upd H1 D (.lst [])) := ⟨⟨[], by simp, by simp⟩, ⟨[D], rfl, fun b hb => by rw [List.mem_singleton.mp hb]; exact nD⟩, fun b o e hb => by rw [upd_ne (ne_of_none e nD)]; exact e⟩
    have RD : HR K ⟨g1.m, D :: g1.r⟩ (upd H1 D (.lst [])) h1 := by
      refine ⟨R1.len, R1.nd, fun a ha z => ?_, fun a ha => ?_, fun i o a e1 e2 => ?_⟩
      · rcases List.mem_cons.mp z with z | z
        · subst z; exact R1.fresh nD (.inl ha)
        · exact R1.dis a ha z
      · rcases List.mem_cons.mp ha with z | z
        · subst z; exact ⟨_, upd_same, trivial⟩
        · obtain ⟨ob, e, mo⟩ := R1.al a z
          exact ⟨ob, by rw [upd_ne (ne_of_none e nD)]; exact e, mo⟩
      · have q := R1.obj i o a e1 e2
        cases o with
        | lst l => obtain ⟨xs, e, r⟩ := q; exact ⟨xs, by rw [upd_ne (ne_of_none e nD)]; exact e, r.extS R1 ES⟩
        | dic l => obtain ⟨xs, e, r⟩ := q; exact ⟨xs, by rw [upd_ne (ne_of_none e nD)]; exact e, r.1, r.2.extS R1 ES⟩
        | ins c f => obtain ⟨dx, gs, e, r⟩ := q; exact ⟨dx, gs, by rw [upd_ne (ne_of_none e nD)]; exact e, r.1, r.2.extS R1 ES⟩
    let Wd : Nat → Hp → Prop := fun i H => ∃ g2 h2 ys xs, H D = some (.lst xs) ∧ Ext ⟨g1.m, D :: g1.r⟩ (upd H1 D (.lst [])) g2 (upd H D (.lst [])) ∧ HR K g2 H h2 ∧ VRs K g2 H ys xs ∧ xs.length ≤ i ∧ i ≤ s.1.length ∧
      After K W (vr K) σ g1 H1 Q ((lcL t c e s (s.1.drop i) ys (wipeL l vs) h2).bind fin)
    refine ⟨fun i m H => m = s.1.length - i ∧ Wd i H, ⟨s.1.length, by simp, ⟨g1.m, D :: g1.r⟩, h1, [], [], upd_same, by rw [upd_upd]; exact Ext.refl, RD, VRs.nil, by simp, Nat.zero_le _, by simpa using A⟩, ?_⟩
    rintro i m H ⟨rfl, g2, h2, ys, xs, eD, E, R2, r, hl, hil, A⟩
    have hDr : D ∈ g2.r := by rw [E.r]; exact List.mem_cons_self ..
    have hDm : D ∉ g2.m := fun z => R2.dis D z hDr
    obtain ⟨tm, em, nm⟩ := E.m
    have em : g2.m = g1.m ++ tm := em
    have nm : ∀ b ∈ tm, H1 b = none := fun b hb => by
      have q := nm b hb
      have hne : b ≠ D := by rintro rfl; rw [upd_same] at q; cases q
      rw [upd_ne hne] at q
      exact q
    have keep : ∀ b o, H1 b = some o → b ∉ g1.m → H b = some o := fun b o e hb => by
      have hne := ne_of_none e nD
      have q := E.keep b o (by rw [upd_ne hne]; exact e) hb
      rw [upd_ne hne] at q
      exact q
    have E2S : ExtS g1 H1 g2 H := ⟨⟨tm, em, nm⟩, ⟨[D], E.r, fun b hb => by rw [List.mem_singleton.mp hb]; exact nD⟩, fun b o e hb => keep b o e fun z => hb (.inl z)⟩
    have E2 : Ext g1 H1 ⟨g2.m, g1.r⟩ H := ⟨⟨tm, em, nm⟩, rfl, keep, fun b o e => by
      have hne := ne_of_none e nD
      obtain ⟨o', q⟩ := E.there b o (by rw [upd_ne hne]; exact e)
      rw [upd_ne hne] at q
      exact ⟨o', q⟩⟩
    have S2 : SR K g2 H (wipeL l vs) (wipe σ vs) := (S1.extS R1 E2S).wipe vs
    cases hd : s.1.drop i with
    | nil =>
      have hle : s.1.length ≤ i := List.drop_eq_nil_iff.mp hd
      rw [hd] at A
      simp only [lcL] at A
      split at A
      · rename_i ok
        exact .inl ⟨(sv g2 H h2 E2S R2 ok i).2 (Nat.le_antisymm hil hle), hfin nD al hDr E.r eD E2 R2 r A⟩
      · exact A.elim
    | cons v rest =>
      have hlt : i < s.1.length := by
        by_cases q : i < s.1.length
        · exact q
        · rw [List.drop_eq_nil_iff.mpr (by omega)] at hd; cases hd
      have hv : s.1[i]? = some v := by
        have q := congrArg List.head? hd
        rw [List.head?_drop] at q
        simpa using q
      have hr : s.1.drop (i + 1) = rest := by
        have q := congrArg List.tail hd
        rw [List.tail_drop] at q
        simpa using q
      rw [hd] at A
      simp only [lcL] at A
      split at A
      · rename_i ok
        obtain ⟨go, yl⟩ := (sv g2 H h2 E2S R2 ok i).1 v hv
        refine .inr ⟨go, Wd (i + 1), fun H' q => ⟨s.1.length - (i + 1), by omega, rfl, q⟩, fun x H' y => ?_⟩
        obtain ⟨E3, R3, rx⟩ := yl x H' y
        refine ⟨g2, wipeL l vs, h2, v, S2.ext R2 E3, R3, rx, ?_⟩
        cases et : t v (wipeL l vs) h2 with
        | exc x l1 h1 => rw [et] at A; exact A
        | fail => rw [et] at A; exact A
        | ok l3 h3 =>
          rw [et] at A
          simp only at A
          intro g4 H4 σ4 E4 R4 S4 w4
          refine ⟨w4.trans (wipe_wipe fun _ hu => hu), g4, l3, h3, S4, R4, ?_⟩
          cases ec : c l3 h3 with
          | exc x h1 => rw [ec] at A; exact A.elim
          | fail => rw [ec] at A; exact A.elim
          | ok b h5 =>
            rw [ec] at A
            simp only at A
            intro g5 H5 b' E5 R5 eb
            obtain rfl : b = b' := eb
            have E25 := (E3.trans E4).trans E5
            have keepD : ∀ {g6 : Gh} {H6 : Hp}, Ext g2 H g6 H6 → H6 D = some (.lst xs) := fun E6 => E6.keep D _ eD hDm
            cases b with
            | false =>
              rw [if_neg Bool.false_ne_true] at A ⊢
              exact ⟨g5, h5, ys, xs, keepD E25, E.trans (E25.reset hDm eD), R5, r.ext R2 E25, by omega, hlt, by rw [hr]; exact A⟩
            | true =>
              rw [if_pos rfl] at A ⊢
              refine ⟨g5, l3, h5, S4.ext R4 E5, R5, ?_⟩
              cases ee : e l3 h5 with
              | exc x h1 => rw [ee] at A; exact A.elim
              | fail => rw [ee] at A; exact A.elim
              | ok y h6 =>
                rw [ee] at A
                simp only at A
                intro g6 H6 xv E6 R6 rv
                have E26 := E25.trans E6
                have hD6 : D ∈ g6.r := by rw [E26.r]; exact hDr
                have k6 := keepD E26
                refine ⟨xs, k6, by omega, g6, h6, ys ++ [y], xs ++ [xv], upd_same, ?_, R6.reset hD6 k6 trivial trivial, ((r.ext R2 E26).append (.one rv)).reset hD6 k6 trivial, by simp; omega, hlt, by rw [hr]; exact A⟩
                rw [upd_upd]
                exact E.trans (E26.reset hDm eD)
      · exact A.elim
end
section
variable {X : Cx} {W : WX}
def GTs (X : Cx) (W : WX) (es : List Expr) (d : DenG Bool) : Prop := PTs X es (tG X.K W br d)
def dYes : DenG Bool := fun _ h => .ok true h
theorem gts_nil : GTs X W [] dYes := ⟨fun pins s σ H Q I ⟨g, l, h, S, R, A⟩ => (pts_nil (X := X)).run pins s σ H Q I (A g H true Ext.refl R rfl)⟩
theorem gts_one {c : Expr} {d : DenG Bool} (hc : GT X W c d) : GTs X W [c] d := pts_one hc
theorem ge_lc {fin : List Val → Hv → Res Val} (hfin : FinOk X.K fin) {elt tg iter : Expr} {ifs : List Expr} {scope : Scope} (own : List (Str × Nat)) {pos : Pos} {di : DenG Src} {t : Tg} {c : DenG Bool} {e : Den} (hc : X.calm = true) (hN : X.N.Nodup) (hi : GI X W tg iter di)
    (hg : ∀ (s : Shared) (H : Hp) (C : Addr) (cl : List (Str × Addr)) (fp : List Addr), GC (X.blk s H scope (compEnvC scope cl C X.env) fp) (own.map (·.2)) tg t) (ht : ∀ (s : Shared) (H : Hp) (C : Addr) (cl : List (Str × Addr)) (fp : List Addr), GTs (X.blk s H scope (compEnvC scope cl C X.env) fp) W0 ifs c)
    (he : ∀ (s : Shared) (H : Hp) (C : Addr) (cl : List (Str × Addr)) (fp : List Addr), GE (X.blk s H scope (compEnvC scope cl C X.env) fp) W0 elt e) (ok : blkC X.N X.env.scope scope own = true := by first | rfl | decide +kernel) (hs : ∀ x, foldedSetIterable iter X.env x = pure x := by intro _; rfl) :
    GE X W (.ListComp elt [⟨tg, iter, ifs, 0⟩] scope pos) (dLc fin (own.map (·.2)) di t c e) :=
  PE.imp (pe_lc (g := tTc X.K (own.map fun p : Str × Nat => p.2) t) (tt := tG X.K W0 br c) (te := tG X.K W0 (vr X.K) e) hc hN hi (blkOk_by ok) hg ht he hs) fun σ H Q z => lc_red hfin z
theorem gs_setLc {fin : List Val → Hv → Res Val} (hfin : FinOk X.K fin) (i : Nat) {y : Str} {py : Pos} {elt tg iter : Expr} {ifs : List Expr} {scope : Scope} (own : List (Str × Nat)) {pos spos : Pos} {di : DenG Src} {t : Tg} {c : DenG Bool} {e : Den} (hc : X.calm = true) (hN : X.N.Nodup) (hi : GI X W tg iter di)
    (hg : ∀ (s : Shared) (H : Hp) (C : Addr) (cl : List (Str × Addr)) (fp : List Addr), GC (X.blk s H scope (compEnvC scope cl C X.env) fp) (own.map (·.2)) tg t) (ht : ∀ (s : Shared) (H : Hp) (C : Addr) (cl : List (Str × Addr)) (fp : List Addr), GTs (X.blk s H scope (compEnvC scope cl C X.env) fp) W0 ifs c)
    (he : ∀ (s : Shared) (H : Hp) (C : Addr) (cl : List (Str × Addr)) (fp : List Addr), GE (X.blk s H scope (compEnvC scope cl C X.env) fp) W0 elt e)
    (hy : X.N[i]? = some y := by rfl) (hyl : X.env.scope.names.lookup y = some .local := by rfl) (hsw : swapsWith (.ListComp elt [⟨tg, iter, ifs, 0⟩] scope pos) (some (.Name y py)) spos.line X.env = pure true := by exact sw_true rfl rfl rfl (by decide +kernel))
    (ok : blkC X.N X.env.scope scope own = true := by first | rfl | decide +kernel) (hs : ∀ x, foldedSetIterable iter X.env x = pure x := by intro _; rfl) :
    GS X W (.Assign [.Name y py] (.ListComp elt [⟨tg, iter, ifs, 0⟩] scope pos) spos) (sAsg (dLc fin (own.map (·.2)) di t c e) (gName i)) := by
  refine PS.imp (ps_setLc (g := tTc X.K (own.map fun p : Str × Nat => p.2) t) (tt := tG X.K W0 br c) (te := tG X.K W0 (vr X.K) e) hc hN hy hyl hsw hi (blkOk_by ok) hg ht he hs) fun D σ H ⟨g, l, h, S, R, A⟩ => ?_
  refine lc_red hfin ?_
  refine tG_to S R A fun v h1 g1 H1 x E S1 R1 r1 A1 => ?_
  exact A1 g1 H1 _ Ext.refl R1 (S1.set i r1)
end
end GH
set_option Elab.async false
set_option linter.all false
set_option maxRecDepth 100000
set_option maxHeartbeats 1000000
set_option autoImplicit false
/-! Defs, calls, raise, try. -/
namespace GH
open PySem PySem.Spec PyProof.Rows L2

/-! ### what a def yields -/
def runDef (n : Nat) (body : Stm) (args : List Val) (h : Hv) : Res Val := match body (args.map some ++ List.replicate (n - args.length) none) h with
  | .nx _ h' => .ok .non h'
  | .rt v h' => .ok v h'
  | .exc e _ h' => .exc e h'
  | _ => .fail
/-- behind a call -/
def AfterC (K : PySem.W.Frag) (g : Gh) (H : Hp) (Q : VK) (E : XK) : Res Val → Prop
  | .ok v h' => ∀ g' H' x, Ext g H g' H' → HR K g' H' h' → VR K g' H' v x → Q x H'
  | .exc e h' => ∀ g' H' cls d, Ext g H g' H' → HR K g' H' h' → ER K g' H' e cls d → E cls d H'
  | .fail => False
abbrev DF := List Val → Hv → Res Val
def spG (K : PySem.W.Frag) (D : DF) (n : Nat) : Sp := fun vs H Q E => vs.length = n ∧ ∃ g h args, HR K g H h ∧ VRs K g H args vs ∧ AfterC K g H Q E (D args h)

/-! ### lists that are handed back are frozen, what is no longer reached is forgotten -/
mutual
def frz (f : Nat → Option Val) : Val → Option Val
  | .non => some .non
  | .bl b => some (.bl b)
  | .int i => some (.int i)
  | .str s => some (.str s)
  | .tup l => (frzs f l).map .tup
  | .lst l => (frzs f l).map .lst
  | .fz l => (frzs f l).map .fz
  | .ref i => f i
def frzs (f : Nat → Option Val) : List Val → Option (List Val)
  | [] => some []
  | v :: l => (frz f v).bind fun w => (frzs f l).map (w :: ·)
end
def frzN (h : Hv) (n0 : Nat) : Nat → Nat → Option Val
  | 0, i => if i < n0 then some (.ref i) else none
  | k + 1, i => if i < n0 then some (.ref i) else match h[i]? with
    | some (.lst l) => (frzs (frzN h n0 k) l).map .lst
    | _ => none
mutual
def below (n : Nat) : Val → Bool
  | .tup l => belows n l
  | .lst l => belows n l
  | .fz l => belows n l
  | .ref i => decide (i < n)
  | _ => true
def belows (n : Nat) : List Val → Bool
  | [] => true
  | v :: l => below n v && belows n l
end
def belowO (n : Nat) : Ob → Bool
  | .lst l => belows n l
  | .dic l => belows n (l.map (·.2))
  | .ins _ fs => belows n (fs.map (·.2))
def kept (n : Nat) (h h' : Hv) : Prop := n ≤ h'.length ∧ ∀ i < n, h'[i]? = h[i]? ∨ ∀ o, h'[i]? = some o → belowO n o = true
open Classical in
noncomputable def tidy (r : Res Val) (h : Hv) : Res Val := match r with
  | .ok v h' => if kept h.length h h' then (match frz (frzN h' h.length h'.length) v with
    | some w => .ok w (h'.take h.length)
    | none => .fail) else .fail
  | .exc e h' => if kept h.length h h' ∧ e.fs = [] then .exc e (h'.take h.length) else .fail
  | .fail => .fail
section
variable {K : PySem.W.Frag} {g g' : Gh} {H H0 : Hp} {t : List Addr}
mutual
theorem VR.cut {n : Nat} (hn : n = g.m.length) (hm : g'.m = g.m ++ t) (ho : ∀ a, ¬ g'.own a → ¬ g.own a) : ∀ {v : Val} {x : V}, below n v = true → VR K g' H v x → VR K g H v x
  | .non, x, _, q => by simpa only [VR] using q
  | .bl b, x, _, q => by simpa only [VR] using q
  | .int i, x, _, q => by simpa only [VR] using q
  | .str s, x, _, q => by simpa only [VR] using q
  | .tup l, x, b, q => by
    simp only [VR] at q ⊢
    obtain ⟨a, xs, e, s, r⟩ := q
    exact ⟨a, xs, e, s, VRs.cut hn hm ho b r⟩
  | .lst l, x, b, q => by
    simp only [VR] at q ⊢
    obtain ⟨a, xs, e, n, s, r⟩ := q
    exact ⟨a, xs, e, ho a n, s, VRs.cut hn hm ho b r⟩
  | .fz l, x, b, q => by
    simp only [VR] at q ⊢
    obtain ⟨a, xs, e, s, r⟩ := q
    exact ⟨a, xs, e, s, VRs.cut hn hm ho b r⟩
  | .ref i, x, b, q => by
    simp only [VR] at q ⊢
    obtain ⟨a, e, h⟩ := q
    have hi : i < n := by simpa [below] using b
    exact ⟨a, e, by rw [hm, List.getElem?_append_left (by omega)] at h; exact h⟩
theorem VRs.cut {n : Nat} (hn : n = g.m.length) (hm : g'.m = g.m ++ t) (ho : ∀ a, ¬ g'.own a → ¬ g.own a) : ∀ {l : List Val} {xs : List V}, belows n l = true → VRs K g' H l xs → VRs K g H l xs
  | [], xs, _, q => by simpa only [VRs] using q
  | v :: l, xs, b, q => by
    simp only [VRs] at q ⊢
    obtain ⟨x, r, e, q1, q2⟩ := q
    have b : below n v = true ∧ belows n l = true := by simpa [belows] using b
    exact ⟨x, r, e, VR.cut hn hm ho b.1 q1, VRs.cut hn hm ho b.2 q2⟩
end
mutual
theorem VR.low {n : Nat} (hn : n = g.m.length) : ∀ {v : Val} {x : V}, VR K g H v x → below n v = true
  | .non, x, q => rfl
  | .bl b, x, q => rfl
  | .int i, x, q => rfl
  | .str s, x, q => rfl
  | .tup l, x, q => by
    simp only [VR] at q
    obtain ⟨a, xs, e, s, r⟩ := q
    exact VRs.low hn r
  | .lst l, x, q => by
    simp only [VR] at q
    obtain ⟨a, xs, e, n, s, r⟩ := q
    exact VRs.low hn r
  | .fz l, x, q => by
    simp only [VR] at q
    obtain ⟨a, xs, e, s, r⟩ := q
    exact VRs.low hn r
  | .ref i, x, q => by
    simp only [VR] at q
    obtain ⟨a, e, h⟩ := q
    have := (List.getElem?_eq_some_iff.mp h).1
    simp only [below, decide_eq_true_eq]
    omega
theorem VRs.low {n : Nat} (hn : n = g.m.length) : ∀ {l : List Val} {xs : List V}, VRs K g H l xs → belows n l = true
  | [], xs, q => rfl
  | v :: l, xs, q => by
    simp only [VRs] at q
    obtain ⟨x, r, e, q1, q2⟩ := q
    simp only [belows, VR.low hn q1, VRs.low hn q2, Bool.and_self]
end
theorem OR.low {n : Nat} (hn : n = g.m.length) {a : Addr} {o : Ob} (q : OR K g H a o) : belowO n o = true := by
  cases o with
  | lst l => obtain ⟨xs, e, r⟩ := q; exact r.low hn
  | dic l => obtain ⟨xs, e, r⟩ := q; exact r.2.low hn
  | ins c f => obtain ⟨dx, gs, e, r⟩ := q; exact r.2.low hn
theorem OR.cut {n : Nat} (hn : n = g.m.length) (hm : g'.m = g.m ++ t) (ho : ∀ a, ¬ g'.own a → ¬ g.own a) {a : Addr} {o : Ob} (b : belowO n o = true) (q : OR K g' H a o) : OR K g H a o := by
  cases o with
  | lst l => obtain ⟨xs, e, r⟩ := q; exact ⟨xs, e, r.cut hn hm ho b⟩
  | dic l => obtain ⟨xs, e, r⟩ := q; exact ⟨xs, e, r.1, r.2.cut hn hm ho b⟩
  | ins c f => obtain ⟨dx, gs, e, r⟩ := q; exact ⟨dx, gs, e, r.1, r.2.cut hn hm ho b⟩
mutual
theorem frz_ok {f : Nat → Option Val} (hf : ∀ i w x, f i = some w → VR K g' H (.ref i) x → VR K g H w x) (ho : ∀ a, ¬ g'.own a → ¬ g.own a) : ∀ {v w : Val} {x : V}, frz f v = some w → VR K g' H v x → VR K g H w x
  | .non, w, x, e, q => by simp only [frz, Option.some.injEq] at e; subst e; simpa only [VR] using q
  | .bl b, w, x, e, q => by simp only [frz, Option.some.injEq] at e; subst e; simpa only [VR] using q
  | .int i, w, x, e, q => by simp only [frz, Option.some.injEq] at e; subst e; simpa only [VR] using q
  | .str s, w, x, e, q => by simp only [frz, Option.some.injEq] at e; subst e; simpa only [VR] using q
  | .tup l, w, x, e, q => by
    simp only [frz, Option.map_eq_some_iff] at e
    obtain ⟨k, e, rfl⟩ := e
    simp only [VR] at q ⊢
    obtain ⟨a, xs, e2, s, r⟩ := q
    exact ⟨a, xs, e2, s, frzs_ok hf ho e r⟩
  | .lst l, w, x, e, q => by
    simp only [frz, Option.map_eq_some_iff] at e
    obtain ⟨k, e, rfl⟩ := e
    simp only [VR] at q ⊢
    obtain ⟨a, xs, e2, n, s, r⟩ := q
    exact ⟨a, xs, e2, ho a n, s, frzs_ok hf ho e r⟩
  | .fz l, w, x, e, q => by
    simp only [frz, Option.map_eq_some_iff] at e
    obtain ⟨k, e, rfl⟩ := e
    simp only [VR] at q ⊢
    obtain ⟨a, xs, e2, s, r⟩ := q
    exact ⟨a, xs, e2, s, frzs_ok hf ho e r⟩
  | .ref i, w, x, e, q => hf i w x e q
theorem frzs_ok {f : Nat → Option Val} (hf : ∀ i w x, f i = some w → VR K g' H (.ref i) x → VR K g H w x) (ho : ∀ a, ¬ g'.own a → ¬ g.own a) : ∀ {l k : List Val} {xs : List V}, frzs f l = some k → VRs K g' H l xs → VRs K g H k xs
  | [], k, xs, e, q => by simp only [frzs, Option.some.injEq] at e; subst e; simpa only [VRs] using q
  | v :: l, k, xs, e, q => by
    simp only [frzs, Option.bind_eq_some_iff, Option.map_eq_some_iff] at e
    obtain ⟨w, e1, k', e2, rfl⟩ := e
    simp only [VRs] at q ⊢
    obtain ⟨x, r, e3, q1, q2⟩ := q
    exact ⟨x, r, e3, frz_ok hf ho e1 q1, frzs_ok hf ho e2 q2⟩
end
theorem frzN_ok {h h' : Hv} (R : HR K g H0 h) (R' : HR K g' H h') (E : Ext g H0 g' H) (hm : g'.m = g.m ++ t) (ho : ∀ a, ¬ g'.own a → ¬ g.own a) : ∀ (k i : Nat) (w : Val) (x : V), frzN h' h.length k i = some w → VR K g' H (.ref i) x → VR K g H w x := by
  intro k
  have low : ∀ (i : Nat) (x : V), i < h.length → VR K g' H (.ref i) x → VR K g H (.ref i) x := fun i x hi q => by
    simp only [VR] at q ⊢
    obtain ⟨a, e, q⟩ := q
    exact ⟨a, e, by rw [hm, List.getElem?_append_left (by rw [R.len]; exact hi)] at q; exact q⟩
  induction k with
  | zero =>
    intro i w x e q
    simp only [frzN] at e
    split at e
    · rename_i hi
      cases e
      exact low i x hi q
    · cases e
  | succ k ih =>
    intro i w x e q
    simp only [frzN] at e
    split at e
    · rename_i hi
      cases e
      exact low i x hi q
    · rename_i hi
      split at e
      · rename_i l hl
        simp only [Option.map_eq_some_iff] at e
        obtain ⟨ys, e, rfl⟩ := e
        simp only [VR] at q
        obtain ⟨a, rfl, q⟩ := q
        obtain ⟨xs, e1, r⟩ := R'.obj i _ a hl q
        simp only [VR]
        refine ⟨a, xs, rfl, ?_, e1, frzs_ok ih ho e r⟩
        rintro (z | z)
        · obtain ⟨j, hj, ej⟩ := List.getElem_of_mem z
          have hj' : g'.m[j]? = some a := by
            rw [hm, List.getElem?_append_left hj, List.getElem?_eq_getElem hj, ej]
          have h1 := List.getElem?_eq_some_iff.mp q
          have h2 := List.getElem?_eq_some_iff.mp hj'
          obtain ⟨l1, p1⟩ := h1
          obtain ⟨l2, p2⟩ := h2
          have e3 : i = j := (List.getElem_inj R'.nd).mp (p1.trans p2.symm)
          rw [R.len] at hj
          omega
        · exact R'.dis a (List.mem_of_getElem? q) (by rw [E.r]; exact z)
      · cases e
theorem tidy_ok {h : Hv} {Q : VK} {E : XK} {r : Res Val} (R : HR K g H0 h) (A : AfterC K g H0 Q E (tidy r h)) : AfterC K g H0 Q E r := by
  have main : ∀ {g' : Gh} {H : Hp} {h' : Hv}, Ext g H0 g' H → HR K g' H h' → kept h.length h h' → Ext g H0 g H ∧ HR K g H (h'.take h.length) := fun {g' H h'} X R' kp => by
    obtain ⟨t, hm, nt⟩ := X.m
    have ho : ∀ a, ¬ g'.own a → ¬ g.own a := fun a n z => n (z.elim (fun z => .inl (by rw [hm]; exact List.mem_append_left _ z)) fun z => .inr (by rw [X.r]; exact z))
    refine ⟨⟨⟨[], by simp, by simp⟩, rfl, X.keep, X.there⟩, ⟨?_, R.nd, R.dis, fun a ha => R'.al a (by rw [X.r]; exact ha), fun i o a e1 e2 => ?_⟩⟩
    · rw [List.length_take, Nat.min_eq_left kp.1]; exact R.len
    · have hi : i < h.length := by rw [← R.len]; exact (List.getElem?_eq_some_iff.mp e2).1
      rw [List.getElem?_take_of_lt hi] at e1
      have hq : OR K g' H a o := R'.obj i o a e1 (by rw [hm, List.getElem?_append_left (by rw [R.len]; exact hi)]; exact e2)
      refine OR.cut (n := h.length) R.len.symm hm ho ?_ hq
      rcases kp.2 i hi with z | z
      · rw [z] at e1
        exact (R.obj i o a e1 e2).low R.len.symm
      · exact z o e1
  cases r with
  | ok v h' =>
    intro g' H x X R' rv
    simp only [tidy] at A
    split at A
    · rename_i kp
      split at A
      · rename_i w ew
        obtain ⟨E1, R1⟩ := main X R' kp
        obtain ⟨t, hm, nt⟩ := X.m
        have ho : ∀ a, ¬ g'.own a → ¬ g.own a := fun a n z => n (z.elim (fun z => .inl (by rw [hm]; exact List.mem_append_left _ z)) fun z => .inr (by rw [X.r]; exact z))
        exact A g H x E1 R1 (frz_ok (frzN_ok R R' X hm ho _) ho ew rv)
      · exact A.elim
    · exact A.elim
  | exc e h' =>
    intro g' H cls d X R' re
    simp only [tidy] at A
    split at A
    · rename_i kp
      obtain ⟨E1, R1⟩ := main X R' kp.1
      refine A g H cls d E1 R1 ?_
      unfold ER at re ⊢
      rw [kp.2] at re ⊢
      exact re
    · exact A.elim
  | fail => exact A
end

/-! ### a def keeps what its body yields -/
abbrev WD (E : XK) : WX := fun cls d _ H => E cls d H
section
variable {P : Program} {w : World} {K : PySem.W.Frag} {mg : Str → Option Value} {base : Heap}
theorem fn_G {name qual : Str} {params : Arguments} {body : List Stmt} {scope : Scope} {f : Addr} {fd : FuncData} {N ps : List Str} {k : Nat} {d : Stm} {D : DF} {dvs : List V} {kws : List (Str × V)} (F : FunD K name qual params body scope dvs kws f fd) (S : FnScope N ps scope)
    (hD : ∀ args h, args.length = ps.length → D args h = runDef N.length d args h ∨ D args h = tidy (runDef N.length d args h) h)
    (hbody : ∀ (cdv : Value) (A : Around) (outer : List Env) (s : Shared) (H : Hp) (E : XK), Room k (A.deeper (envOfC qual scope s.heap.objs.size f cdv)) →
      PassesOwn (model P w) (A.deeper (envOfC qual scope s.heap.objs.size f cdv)) (envOfC qual scope s.heap.objs.size f cdv) (cxOf (L2.CX P w) P w K mg base N qual scope f cdv A outer s H E).xe →
      Takes (cxOf (L2.CX P w) P w K mg base N qual scope f cdv A outer s H E) (WD E) →
      GSs (cxOf (L2.CX P w) P w K mg base N qual scope f cdv A outer s H E) (WD E) body d) : FnOk P w K mg base (L2.CX P w) (k + 1) f fd ps (spG K D ps.length) := by
  refine F.ok S (fun vs H Q E h => h.1) (fun cdv A outer s H vs Q E hr h => ⟨tS K (WD E) d, hbody cdv A outer s H E hr (passes_of rfl) (takes_of rfl rfl rfl rfl), ?_⟩)
  obtain ⟨hl, g, h, args, R, r, A⟩ := h
  have A : AfterC K g H Q E (runDef N.length d args h) := by
    rcases hD args h (by rw [r.length, hl]) with e | e
    · rw [e] at A; exact A
    · rw [e] at A; exact tidy_ok R A
  refine ⟨g, args.map some ++ List.replicate (N.length - args.length) none, h, ?_, R, ?_⟩
  · unfold L2.start
    refine ⟨by simp [r.length], fun i v e => ?_⟩
    by_cases hi : i < args.length
    · rw [List.getElem?_append_left (by simpa using hi), List.getElem?_map] at e
      cases ea : args[i]? with
      | none => rw [ea] at e; cases e
      | some a =>
        rw [ea] at e
        cases e
        obtain ⟨x, e1, e2⟩ := r.get ea
        exact ⟨x, by rw [List.getElem?_append_left (by simpa [← r.length] using hi), List.getElem?_map, e1]; rfl, e2⟩
    · rw [List.getElem?_append_right (by simpa using hi), List.getElem?_replicate] at e
      split at e <;> cases e
  · unfold runDef at A
    cases e : d (args.map some ++ List.replicate (N.length - args.length) none) h with
    | nx l h1 =>
      rw [e] at A
      intro g' H' σ' X R' S'
      exact A g' H' .non X R' (by simp only [VR])
    | rt v h1 => rw [e] at A; exact A
    | exc x l h1 =>
      rw [e] at A
      intro g' H' σ' cls dd X R' S' re
      exact A g' H' cls dd X R' re
    | bk l h1 => rw [e] at A; exact False.elim A
    | ct l h1 => rw [e] at A; exact False.elim A
    | fail => rw [e] at A; exact A
end

/-! ### calls -/
def dCall (D : DF) (r : DenG (List Val)) : Den := fun l h => (r l h).bind fun vs h1 => D vs h1
section
variable {X : Cx} {W : WX}
theorem spG_of {D : DF} {n : Nat} {σ : L2.St} {g : Gh} {H : Hp} {h : Hv} {Q : VK} {args : List Val} {vs : List V} (hn : args.length = n) (R : HR X.K g H h) (r : VRs X.K g H args vs) (A : After X.K W (vr X.K) σ g H Q (D args h)) : spG X.K D n vs H Q (WE W σ) := by
  refine ⟨by rw [← r.length]; exact hn, g, h, args, R, r, ?_⟩
  cases e : D args h with
  | ok v h1 => rw [e] at A; exact A
  | exc x h1 => rw [e] at A; exact A
  | fail => rw [e] at A; exact A
def arity (n : Nat) (D : DF) : DF := fun args h => if args.length = n then D args h else .fail
theorem ge_call {D : DF} {k : Nat} {f : Addr} {fd : FuncData} {ps : List Str} {x : Str} {p pos : Pos} {e : Expr} {es : List Expr} {da : DenG (List Val)} (F : FnOk X.prog X.w X.K X.mg X.base (L2.CX X.prog X.w) k f fd ps (spG X.K D ps.length)) (hr : Room k X.A) (tk : Takes X W)
    (hm : X.mg x = some (.ref f)) (hk : PySem.W.keepIn X.K (.ref f) = true) (hb : Binds X.K fd ps []) (ha : GA X W (e :: es) da) (hn : ∀ l h vs h', da l h = .ok vs h' → vs.length = ps.length) (hg : Gl X x := by rfl) (hdb : (x == ("__debug__" : Str)) = false := by decide +kernel)
    (he : starEach (e :: es) X.env = (false, eval e X.env) :: starEach es X.env := by rfl) (hpl : (backTo pos (starEach es X.env)).any (·.1) = false := by rfl) : GE X W (.Call (.Name x p) (e :: es) [] pos) (dCall D da) := by
  refine PE.imp (pe_callS F hr hg hm hk hb (fun σ => passAt tk σ) ha hdb he hpl) fun σ H Q ⟨g, l, h, S, R, A⟩ => ?_
  refine ⟨g, l, h, S, R, ?_⟩
  unfold dCall at A
  cases ed : da l h with
  | ok vs h1 =>
    rw [ed] at A
    intro g' H' ws E R' r
    exact spG_of (hn l h vs h1 ed) R' r (After.ext E A)
  | exc x h1 => rw [ed] at A; exact A
  | fail => rw [ed] at A; exact A

/-! ### raise, try -/
def sRaise (c : List Nat) : Stm := fun l h => .exc ⟨c, []⟩ l h
theorem gs_raise (c : List Nat) {x m : Str} {j : Nat} {p p2 pos pos2 : Pos} (hc : X.calm = true) (tk : Takes X W) (q : PySem.W.excIn X.K (clsA X.K c) He.veBase "ValueError.__new__" = true) (gC : X.mg x = some (.ref (clsA X.K c))) (kC : PySem.W.keepIn X.K (.ref (clsA X.K c)) = true)
    (h1 : PySem.W.subIn X.K (.ref (clsA X.K c)) (.type "BaseException") = some true) (h2 : PySem.W.typeIn X.K (.ref (clsA X.K c)) = some (.type "type")) (hg : Gl X x := by rfl) (hdb : (x == ("__debug__" : Str)) = false := by decide +kernel) :
    GS X W (.Raise (some (.Call (.Name x p) [.Constant (.str m) j p2] [] pos)) none pos2) (sRaise c) := by
  refine PS.imp (ps_raise hc tk (pmk_own PySem.F.excBase_ValueError q gC kC (raises_own h1 h2) hg hdb)) fun D σ H ⟨g, l, h, S, R, A⟩ => ?_
  exact A g H σ _ none Ext.refl R S ⟨rfl, rfl⟩
def SRes.noExc (r : SRes) : SRes := match r with
  | .exc _ _ _ => .fail
  | r => r
@[simp] theorem SRes.noExc_nx (l : Loc) (h : Hv) : (SRes.nx l h).noExc = .nx l h := rfl
@[simp] theorem SRes.noExc_rt (v : Val) (h : Hv) : (SRes.rt v h).noExc = .rt v h := rfl
/-- body; where it raises what the class takes, the suite -/
def sTry (tbl : List (List Nat × Bool)) (body suite : Stm) : Stm := fun l h => match body l h with
  | .exc e l1 h1 => (match tbl.lookup e.c with
    | some true => (suite l1 h1).noExc
    | some false => .exc e l1 h1
    | none => .fail)
  | r => r
theorem AfterS.mono {K : PySem.W.Frag} {W W' : WX} {g : Gh} {H : Hp} {D : Ends} {r : SRes} (A : AfterS K W g H D r) (h : ∀ cls d σ H, W cls d σ H → W' cls d σ H) : AfterS K W' g H D r := by
  cases r with
  | exc e l h1 => exact fun g' H' σ' cls d E R S re => h _ _ _ _ (A g' H' σ' cls d E R S re)
  | nx l h1 => exact A
  | bk l h1 => exact A
  | ct l h1 => exact A
  | rt l h1 => exact A
  | fail => exact A
theorem gs_try (tbl : List (List Nat × Bool)) {x : Str} {c : Value} {body suite : List Stmt} {b₀ : Stmt} {np pos pos' : Pos} {db ds : Stm} (hs : X.stack = X.env :: X.outer) (hf : X.env.frame = some X.env.locals) (hc : Names X x c) (tk : Takes X W)
    (ht : ∀ p ∈ tbl, PySem.W.exmOne X.K (.ref (clsA X.K p.1)) c = some p.2)
    (hb : ∀ (W' : WX) (pn : List (Addr × Obj)) (xe : Value → Shared → Prop), Takes (X.tr pn xe) W' → PassesOwn (model X.prog X.w) X.A X.env xe → GSs (X.tr pn xe) W' body db)
    (hsu : ∀ (a : Addr) (pn : List (Addr × Obj)), GSs (X.suite a pn) W0 (b₀ :: suite) ds) :
    GS X W (.Try body [.ExceptHandler (some (.Name x np)) none (b₀ :: suite) pos'] [] [] pos) (sTry tbl db ds) := by
  refine PS.imp (ps_try_only (tb := fun W' => tS X.K W' db) (ts := fun a cls d => tS X.K W0 ds) hs hf hc tk hb (fun a oe cls d pn _ _ => hsu a _)) fun D σ H ⟨g, l, h, S, R, A⟩ => ?_
  refine ⟨g, l, h, S, R, ?_⟩
  unfold sTry at A
  cases e : db l h with
  | nx l1 h1 => rw [e] at A; exact A
  | bk l1 h1 => rw [e] at A; exact A
  | ct l1 h1 => rw [e] at A; exact A
  | rt l1 h1 => rw [e] at A; exact A
  | fail => rw [e] at A; exact A
  | exc x1 l1 h1 =>
    rw [e] at A
    simp only at A
    intro g' H' σ' cls d E R' S' re
    cases el : tbl.lookup x1.c with
    | none => rw [el] at A; exact A.elim
    | some b =>
      rw [el] at A
      have hm : ∃ y, (y, b) ∈ tbl ∧ y = x1.c := by
        have gen : ∀ (tb : List (List Nat × Bool)), tb.lookup x1.c = some b → ∃ y, (y, b) ∈ tb ∧ y = x1.c := by
          intro tb
          induction tb with
          | nil => intro z; cases z
          | cons p tb ih =>
            intro z
            rw [List.lookup_cons] at z
            split at z
            · rename_i q
              cases z
              exact ⟨p.1, List.mem_cons_self .., (by simpa using q : x1.c = p.1).symm⟩
            · obtain ⟨y, h1, h2⟩ := ih z
              exact ⟨y, List.mem_cons_of_mem _ h1, h2⟩
        exact gen tbl el
      obtain ⟨y, hy, rfl⟩ := hm
      have he := ht _ hy
      rw [← re.1] at he
      refine ⟨b, he, fun hb a na => ?_, fun hb => ?_⟩
      · subst hb
        have A2 : AfterS X.K W g' H' D (ds l1 h1).noExc := AfterS.ext E A
        refine ⟨g', l1, h1, S', R', ?_⟩
        cases es : ds l1 h1 with
        | exc x2 l2 h2 => rw [es] at A2; exact False.elim A2
        | nx l2 h2 => rw [es] at A2; exact A2
        | bk l2 h2 => rw [es] at A2; exact A2
        | ct l2 h2 => rw [es] at A2; exact A2
        | rt l2 h2 => rw [es] at A2; exact A2
        | fail => rw [es] at A2; exact A2
      · subst hb
        exact A g' H' σ' cls d E R' S' re
end
end GH
set_option Elab.async false
set_option linter.all false
set_option maxRecDepth 100000
set_option maxHeartbeats 1000000
set_option autoImplicit false
/-! ==, in, isinstance, slices, built-ins over lists, dicts. -/
namespace GH
open PySem PySem.Spec PyProof.Rows L2

/-! ### values as data -/
mutual
def pd : Val → PyData
  | .non => .none
  | .bl b => .bool b
  | .int i => .int i
  | .str s => .str (sOf s)
  | .tup l => .tuple (pds l)
  | .lst l => .list (pds l)
  | .fz l => .list (pds l)
  | .ref _ => .none
def pds : List Val → List PyData
  | [] => []
  | v :: l => pd v :: pds l
end
mutual
/-- no object of the heap in it, texts of proper signs -/
def okV : Val → Bool
  | .str s => s.all fun c => decide (c < 0x110000)
  | .tup l => okVs l
  | .lst l => okVs l
  | .fz l => okVs l
  | .ref _ => false
  | _ => true
def okVs : List Val → Bool
  | [] => true
  | v :: l => okV v && okVs l
end
mutual
def dpV : Val → Nat
  | .tup l => dpVs l + 1
  | .lst l => dpVs l + 1
  | .fz l => dpVs l + 1
  | _ => 0
def dpVs : List Val → Nat
  | [] => 0
  | v :: l => max (dpV v) (dpVs l)
end
mutual
theorem pd_depth : ∀ v : Val, (pd v).depth = dpV v
  | .non => rfl
  | .bl b => rfl
  | .int i => rfl
  | .str s => rfl
  | .tup l => by simp only [pd, PyData.depth, dpV, pds_depth l]
  | .lst l => by simp only [pd, PyData.depth, dpV, pds_depth l]
  | .fz l => by simp only [pd, PyData.depth, dpV, pds_depth l]
  | .ref i => rfl
theorem pds_depth : ∀ l : List Val, PyData.depthAll (pds l) = dpVs l
  | [] => rfl
  | v :: l => by simp only [pds, PyData.depthAll, dpVs, pd_depth v, pds_depth l]
end
mutual
theorem pd_lay : ∀ v : Val, okV v = true → (pd v).canLay0 = true
  | .non, _ => rfl
  | .bl b, _ => rfl
  | .int i, _ => rfl
  | .str s, h => by
    simp only [pd, PyData.canLay0, PyData.strOk, sOf]
    simpa [okV] using h
  | .tup l, h => by simp only [pd, PyData.canLay0]; exact pds_lay l h
  | .lst l, h => by simp only [pd, PyData.canLay0]; exact pds_lay l h
  | .fz l, h => by simp only [pd, PyData.canLay0]; exact pds_lay l h
  | .ref i, h => by cases h
theorem pds_lay : ∀ l : List Val, okVs l = true → PyData.canLayAll0 (pds l) = true
  | [], _ => rfl
  | v :: l, h => by
    have h : okV v = true ∧ okVs l = true := by simpa [okVs] using h
    simp only [pds, PyData.canLayAll0, pd_lay v h.1, pds_lay l h.2, Bool.and_self]
end
section
variable {K : PySem.W.Frag} {g : Gh} {H : Hp}
mutual
theorem VR.dp : ∀ {v : Val} {x : V}, okV v = true → VR K g H v x → Dp K H x (pd v)
  | .non, x, _, q => by simp only [VR] at q; subst q; exact .non
  | .bl b, x, _, q => by simp only [VR] at q; subst q; exact .bl b
  | .int i, x, _, q => by simp only [VR] at q; subst q; exact .int i
  | .str s, x, _, q => by simp only [VR] at q; subst q; exact .str _
  | .tup l, x, o, q => by
    simp only [VR] at q
    obtain ⟨a, xs, rfl, s, r⟩ := q
    exact .tup s (VRs.dp o r)
  | .lst l, x, o, q => by
    simp only [VR] at q
    obtain ⟨a, xs, rfl, _, s, r⟩ := q
    exact .lst (SqL.of s) (VRs.dp o r)
  | .fz l, x, o, q => by
    simp only [VR] at q
    obtain ⟨a, xs, rfl, s, r⟩ := q
    exact .lst s.sq (VRs.dp o r)
  | .ref i, x, o, q => by cases o
theorem VRs.dp : ∀ {l : List Val} {xs : List V}, okVs l = true → VRs K g H l xs → DpAll K H xs (pds l)
  | [], xs, _, q => by simp only [VRs] at q; subst q; exact .nil
  | v :: l, xs, o, q => by
    simp only [VRs] at q
    obtain ⟨x, r, rfl, q1, q2⟩ := q
    have o : okV v = true ∧ okVs l = true := by simpa [okVs] using o
    exact .cons (VR.dp o.1 q1) (VRs.dp o.2 q2)
end
end
def veq (a b : Val) : Bool := PyData.eqv (pd a) (pd b)
/-- a list of ours, read -/
def thaw (h : Hv) (v : Val) : Val := match v with
  | .ref i => match h[i]? with
    | some (.lst l) => .lst l
    | _ => v
  | v => v
theorem thaw_dp {K : PySem.W.Frag} {g : Gh} {H : Hp} {h : Hv} {v : Val} {x : V} (R : HR K g H h) (r : VR K g H v x) (o : okV (thaw h v) = true) : Dp K H x (pd (thaw h v)) := by
  cases v with
  | ref i =>
    simp only [thaw] at o ⊢
    split at o
    · rename_i l hl
      simp only [VR] at r
      obtain ⟨a, rfl, hm⟩ := r
      obtain ⟨xs, e1, e2⟩ := ref_at R hl hm
      exact .lst (SqL.of e1) (VRs.dp o e2)
    · cases o
  | _ => exact VR.dp o r
def eqOk (a b : Val) : Bool := okV a && okV b && decide (min (dpV a) (dpV b) ≤ 190)
def vEq (v u : Val) (h : Hv) : Res Val := match v, u with
  | .int i, .int j => .ok (.bl (decide (i = j))) h
  | .str a, .str b => .ok (.bl (decide (a = b))) h
  | v, u => if eqOk (thaw h v) (thaw h u) then .ok (.bl (veq (thaw h v) (thaw h u))) h else .fail
def vNe (v u : Val) (h : Hv) : Res Val := match v, u with
  | .int i, .int j => .ok (.bl (!decide (i = j))) h
  | .str a, .str b => .ok (.bl (!decide (a = b))) h
  | v, u => if eqOk (thaw h v) (thaw h u) then .ok (.bl (!veq (thaw h v) (thaw h u))) h else .fail
section
variable {X : Cx}
def rEqG (K : PySem.W.Frag) (neg : Bool) : R2 := fun x y H Q => ∃ d e, Dp K H x d ∧ Dp K H y e ∧ d.canLay0 = true ∧ e.canLay0 = true ∧ min d.depth e.depth ≤ 190 ∧ Q (.bl (if neg then !PyData.eqv d e else PyData.eqv d e)) H
theorem op_eqG (hu : X.A.units + 200 < cLine) : OpR X (compareOp .Eq) (rEqG X.K false) := by
  intro pins s σ H x y v u Q I rx ry h
  obtain ⟨d, e, hd, he, sd, se, hm, q⟩ := h
  obtain ⟨as, r1⟩ := Dp.reads I d x v hd rx
  obtain ⟨bs, r2⟩ := Dp.reads I e y u he ry
  exact SeqAt.compareEq_reads r1 r2 sd se (by omega) ⟨.bl _, H, I, rfl, q⟩
theorem op_neG (hu : X.A.units + 200 < cLine) : OpR X (compareOp .NotEq) (rEqG X.K true) := by
  intro pins s σ H x y v u Q I rx ry h
  obtain ⟨d, e, hd, he, sd, se, hm, q⟩ := h
  obtain ⟨as, r1⟩ := Dp.reads I d x v hd rx
  obtain ⟨bs, r2⟩ := Dp.reads I e y u he ry
  exact SeqAt.compareNe_reads r1 r2 sd se (by omega) ⟨.bl _, H, I, rfl, q⟩
theorem eqG_ok {W : WX} {g : Gh} {H : Hp} {h : Hv} {σ : L2.St} {v u : Val} {x y : V} {Q : VK} {neg : Bool} (R : HR X.K g H h) (rv : VR X.K g H v x) (ru : VR X.K g H u y)
    (A : After X.K W (vr X.K) σ g H Q (if eqOk (thaw h v) (thaw h u) then .ok (.bl (if neg then !veq (thaw h v) (thaw h u) else veq (thaw h v) (thaw h u))) h else .fail)) : rEqG X.K neg x y H Q := by
  split at A
  · rename_i o
    simp only [eqOk, Bool.and_eq_true, decide_eq_true_eq] at o
    exact ⟨_, _, thaw_dp R rv o.1.1, thaw_dp R ru o.1.2, pd_lay _ o.1.1, pd_lay _ o.1.2, by rw [pd_depth, pd_depth]; exact o.2, A g H _ Ext.refl R (by simp only [VR]; rfl)⟩
  · exact A.elim
theorem og_eq (hu : X.A.units + 200 < cLine) : OpG X (compareOp .Eq) vEq := by
  refine ⟨_, op_eq.or (op_eqG hu), fun W g H h σ v u x y Q R rv ru A => ?_⟩
  unfold vEq at A
  split at A
  · simp only [VR] at rv ru
    subst rv ru
    refine .inl ⟨rfl, ?_⟩
    rename_i i j
    have e : decide (V.int i = V.int j) = decide (i = j) := by by_cases q : i = j <;> simp [q]
    rw [e]
    exact A g H _ Ext.refl R (by simp only [VR])
  · simp only [VR] at rv ru
    subst rv ru
    refine .inl ⟨rfl, ?_⟩
    rename_i i j
    have e : decide (V.str (sOf i) = V.str (sOf j)) = decide (i = j) := by
      by_cases q : i = j
      · simp [q]
      · have : ¬ V.str (sOf i) = V.str (sOf j) := fun z => q (sOf_inj (V.str.inj z))
        simp [q, this]
    rw [e]
    exact A g H _ Ext.refl R (by simp only [VR])
  · exact .inr (eqG_ok (neg := false) R rv ru A)
theorem og_ne (hu : X.A.units + 200 < cLine) : OpG X (compareOp .NotEq) vNe := by
  refine ⟨_, op_ne.or (op_neG hu), fun W g H h σ v u x y Q R rv ru A => ?_⟩
  unfold vNe at A
  split at A
  · simp only [VR] at rv ru
    subst rv ru
    refine .inl ⟨rfl, ?_⟩
    rename_i i j
    have e : decide (V.int i = V.int j) = decide (i = j) := by by_cases q : i = j <;> simp [q]
    rw [e]
    exact A g H _ Ext.refl R (by simp only [VR])
  · simp only [VR] at rv ru
    subst rv ru
    refine .inl ⟨rfl, ?_⟩
    rename_i i j
    have e : decide (V.str (sOf i) = V.str (sOf j)) = decide (i = j) := by
      by_cases q : i = j
      · simp [q]
      · have : ¬ V.str (sOf i) = V.str (sOf j) := fun z => q (sOf_inj (V.str.inj z))
        simp [q, this]
    rw [e]
    exact A g H _ Ext.refl R (by simp only [VR])
  · exact .inr (eqG_ok (neg := true) R rv ru A)

/-! ### in -/
def inSeq (x : Val) (l : List Val) : Bool := l.any fun z => veq z x
def inOk (x : Val) (l : List Val) : Bool := okV x && okVs l && decide (min (dpVs l) (dpV x) ≤ 190)
/-- x in c -/
def isIn (x c : Val) (h : Hv) : Res Bool := match c with
  | .str s => match x with
    | .str [a] => .ok (s.contains a) h
    | _ => .fail
  | c => match seqOf h c with
    | some l => if inOk (thaw h x) l then .ok (inSeq (thaw h x) l) h else .fail
    | none => match dicOf h c, keyOf x with
      | some l, some _ => .ok (dGet l x).isSome h
      | _, _ => .fail
def vIn (x c : Val) (h : Hv) : Res Val := (isIn x c h).bind fun b h1 => .ok (.bl b) h1
def vNotIn (x c : Val) (h : Hv) : Res Val := (isIn x c h).bind fun b h1 => .ok (.bl (!b)) h1
def rInG (K : PySem.W.Frag) (neg : Bool) : R2 := fun x y H Q => ∃ d ds, Dp K H x d ∧ (Dp K H y (.list ds) ∨ Dp K H y (.tuple ds)) ∧ d.canLay0 = true ∧ PyData.canLayAll0 ds = true ∧ min (PyData.depthAll ds) d.depth ≤ 190 ∧
  Q (.bl (if neg then !(ds.any fun z => PyData.eqv z d) else ds.any fun z => PyData.eqv z d)) H
theorem op_inG (hu : X.A.units + 200 < cLine) : OpR X (compareOp .In) (rInG X.K false) := by
  intro pins s σ H x y v u Q I rx ry h
  obtain ⟨d, ds, hd, he | he, sd, se, hm, q⟩ := h
  · obtain ⟨as, r1⟩ := Dp.reads I d x v hd rx
    obtain ⟨bs, r2⟩ := Dp.reads I (.list ds) y u he ry
    exact SeqAt.in_list_reads r2 r1 se sd (by omega) ⟨.bl _, H, I, rfl, q⟩
  · obtain ⟨as, r1⟩ := Dp.reads I d x v hd rx
    obtain ⟨bs, r2⟩ := Dp.reads I (.tuple ds) y u he ry
    exact SeqAt.in_tuple_reads r2 r1 se sd (by omega) ⟨.bl _, H, I, rfl, q⟩
theorem op_notInG (hu : X.A.units + 200 < cLine) : OpR X (compareOp .NotIn) (rInG X.K true) := by
  intro pins s σ H x y v u Q I rx ry h
  obtain ⟨d, ds, hd, he | he, sd, se, hm, q⟩ := h
  · obtain ⟨as, r1⟩ := Dp.reads I d x v hd rx
    obtain ⟨bs, r2⟩ := Dp.reads I (.list ds) y u he ry
    exact SeqAt.notIn_list_reads r2 r1 se sd (by omega) ⟨.bl _, H, I, rfl, q⟩
  · obtain ⟨as, r1⟩ := Dp.reads I d x v hd rx
    obtain ⟨bs, r2⟩ := Dp.reads I (.tuple ds) y u he ry
    exact SeqAt.notIn_tuple_reads r2 r1 se sd (by omega) ⟨.bl _, H, I, rfl, q⟩
def rInS (neg : Bool) : R2 := fun x y H Q => ∃ (c : Nat) (z : Str), x = .str ⟨#[c]⟩ ∧ y = .str z ∧ Q (.bl (if neg then !decide (c ∈ z.cps.toList) else decide (c ∈ z.cps.toList))) H
def rInDc (neg : Bool) : R2 := fun x y H Q => ∃ a o, y = .ref a ∧ DGet H a x o ∧ Q (.bl (if neg then !o.isSome else o.isSome)) H
theorem op_inD' (hu : X.A.units + 200 < cLine) : OpR X (compareOp .In) (rInDc false) := by
  intro pins s σ H x y v u Q I rx ry h
  obtain ⟨a, o, rfl, g, q⟩ := h
  obtain rfl : u = Value.ref a := ry
  exact d_in (by omega) I g rx fun s' I' => ⟨.bl _, H, I', rfl, q⟩
theorem op_notInD' (hu : X.A.units + 200 < cLine) : OpR X (compareOp .NotIn) (rInDc true) := by
  intro pins s σ H x y v u Q I rx ry h
  obtain ⟨a, o, rfl, g, q⟩ := h
  obtain rfl : u = Value.ref a := ry
  exact d_notIn (by omega) I g rx fun s' I' => ⟨.bl _, H, I', rfl, q⟩
theorem any_pds (x : Val) : ∀ l : List Val, ((pds l).any fun z => PyData.eqv z (pd x)) = inSeq x l
  | [] => rfl
  | v :: l => by simp only [pds, List.any_cons, inSeq, veq, any_pds x l]
theorem seqOf_dp {K : PySem.W.Frag} {g : Gh} {H : Hp} {h : Hv} {v : Val} {x : V} {l : List Val} (R : HR K g H h) (r : VR K g H v x) (e : seqOf h v = some l) (o : okVs l = true) : Dp K H x (.list (pds l)) ∨ Dp K H x (.tuple (pds l)) := by
  obtain ⟨a, xs, rfl, s, rs⟩ := seqOf_ok R r e
  rcases s with s | s
  · exact .inl (.lst s (VRs.dp o rs))
  · exact .inr (.tup s (VRs.dp o rs))
theorem isIn_ok {W : WX} {g : Gh} {H : Hp} {h : Hv} {σ : L2.St} {v u : Val} {x y : V} {Q : VK} (neg : Bool) (R : HR X.K g H h) (rv : VR X.K g H v x) (ru : VR X.K g H u y)
    (A : After X.K W (vr X.K) σ g H Q ((isIn v u h).bind fun b h1 => .ok (.bl (if neg then !b else b)) h1)) : rInS neg x y H Q ∨ rInG X.K neg x y H Q ∨ rInDc neg x y H Q := by
  unfold isIn at A
  split at A
  · rename_i s
    split at A
    · rename_i a
      simp only [VR] at rv ru
      subst rv ru
      refine .inl ⟨a, _, rfl, rfl, ?_⟩
      have e : decide (a ∈ (sOf s).cps.toList) = s.contains a := by rw [Bool.eq_iff_iff]; exact ⟨fun z => by simpa [sOf] using of_decide_eq_true z, fun z => decide_eq_true (by simpa [sOf] using z)⟩
      rw [e]
      exact A g H _ Ext.refl R (by simp only [VR])
    · exact A.elim
  · split at A
    · rename_i l hl
      split at A
      · rename_i o
        simp only [inOk, Bool.and_eq_true, decide_eq_true_eq] at o
        refine .inr (.inl ⟨pd (thaw h v), pds l, thaw_dp R rv o.1.1, seqOf_dp R ru hl o.1.2, pd_lay _ o.1.1, pds_lay _ o.1.2, by rw [pds_depth, pd_depth]; exact o.2, ?_⟩)
        rw [any_pds]
        exact A g H _ Ext.refl R (by simp only [VR])
      · exact A.elim
    · split at A
      · rename_i l k hl hk
        obtain ⟨i, a, ks, rfl, rfl, hm, hi, ha, d⟩ := dicOf_ok R ru hl
        obtain ⟨d1, d2⟩ := DR.get hk d
        have A : After X.K W (vr X.K) σ g H Q (.ok (.bl (if neg then !(dGet l v).isSome else (dGet l v).isSome)) h) := A
        rw [key_V rv hk]
        have hs : (valV ks k).isSome = (dGet l v).isSome := by
          cases e : dGet l v with
          | none => rw [d2 e]; rfl
          | some w => obtain ⟨z, e1, _⟩ := d1 w e; rw [e1]; rfl
        refine .inr (.inr ⟨a, _, rfl, DGet.k ha, ?_⟩)
        rw [hs]
        exact A g H _ Ext.refl R (by simp only [VR])
      · exact A.elim
theorem og_in (hu : X.A.units + 200 < cLine) : OpG X (compareOp .In) vIn :=
  ⟨_, (show OpR X (compareOp .In) (rInS false) from op_in_sign).or ((op_inG hu).or (op_inD' hu)), fun W g H h σ v u x y Q R rv ru A => isIn_ok false R rv ru A⟩
theorem og_notIn (hu : X.A.units + 200 < cLine) : OpG X (compareOp .NotIn) vNotIn :=
  ⟨_, (show OpR X (compareOp .NotIn) (rInS true) from op_notIn_sign).or ((op_notInG hu).or (op_notInD' hu)), fun W g H h σ v u x y Q R rv ru A => isIn_ok true R rv ru A⟩
end

/-! ### isinstance -/
inductive Ty where
  | non | bool | int | str | tuple | list | dict
  deriving DecidableEq
def Ty.name : Ty → String
  | .non => "NoneType" | .bool => "bool" | .int => "int" | .str => "str" | .tuple => "tuple" | .list => "list" | .dict => "dict"
def tyOf (h : Hv) : Val → Option Ty
  | .non => some .non
  | .bl _ => some .bool
  | .int _ => some .int
  | .str _ => some .str
  | .tup _ => some .tuple
  | .lst _ => some .list
  | .fz _ => some .list
  | .ref i => match h[i]? with
    | some (.lst _) => some .list
    | some (.dic _) => some .dict
    | _ => none
def isiB (a b : Ty) : Bool := decide (a = b) || (decide (a = .bool) && decide (b = .int))
theorem kitB_ok : ∀ a b : Ty, b ≠ .non → kitB a.name b.name = some (isiB a b) := by
  intro a b hb
  cases a <;> cases b <;> first | exact absurd rfl hb | decide +kernel
theorem tyOf_ok {K : PySem.W.Frag} {g : Gh} {H : Hp} {h : Hv} {v : Val} {x : V} {t : Ty} (R : HR K g H h) (r : VR K g H v x) (e : tyOf h v = some t) : TyX K H x (.type t.name) := by
  cases v with
  | non => simp only [tyOf, Option.some.injEq] at e; subst e; simp only [VR] at r; subst r; exact .base .non
  | bl b => simp only [tyOf, Option.some.injEq] at e; subst e; simp only [VR] at r; subst r; exact .base (.bl b)
  | int b => simp only [tyOf, Option.some.injEq] at e; subst e; simp only [VR] at r; subst r; exact .base (.int b)
  | str b => simp only [tyOf, Option.some.injEq] at e; subst e; simp only [VR] at r; subst r; exact .base (.str _)
  | tup l =>
    simp only [tyOf, Option.some.injEq] at e
    subst e
    simp only [VR] at r
    obtain ⟨a, xs, rfl, s, _⟩ := r
    rcases s with (s | ⟨o, s⟩) | ⟨o, its, n, hk, hc, _⟩
    · exact .base (.tup s)
    · exact .fTuple s
    · exact .kTuple hk hc
  | lst l =>
    simp only [tyOf, Option.some.injEq] at e
    subst e
    simp only [VR] at r
    obtain ⟨a, xs, rfl, _, s, _⟩ := r
    exact .base (.lst s)
  | fz l =>
    simp only [tyOf, Option.some.injEq] at e
    subst e
    simp only [VR] at r
    obtain ⟨a, xs, rfl, s, _⟩ := r
    rcases s with ⟨o, s⟩ | ⟨o, its, n, hk, hc, _⟩
    · exact .base (.frz s)
    · exact .kList hk hc
  | ref i =>
    simp only [VR] at r
    obtain ⟨a, rfl, hm⟩ := r
    simp only [tyOf] at e
    split at e
    · rename_i l hl
      cases e
      obtain ⟨xs, e1, _⟩ := ref_at R hl hm
      exact .base (.lst e1)
    · rename_i l hl
      cases e
      obtain ⟨xs, e1, _⟩ := ref_at R hl hm
      exact .base (.dK e1)
    · cases e
def dIsi (t : Ty) (d : Den) : Den := fun l h => (d l h).bind fun v h1 => match tyOf h1 v with
  | some a => .ok (.bl (isiB a t)) h1
  | none => .fail
section
variable {X : Cx} {W : WX}
/-- isinstance(e, T), T a built-in type by its name -/
theorem ge_isi (t : Ty) {e : Expr} {d : Den} {x y : Str} {p q pos : Pos} (he : GE X W e d) (hm : X.mg x = none) (hmt : X.mg y = none) (ht : t ≠ .non := by decide) (hg : Gl X x := by rfl) (hgt : Gl X y := by rfl) (hv : bootBuiltins x = some (.builtin "isinstance") := by decide +kernel) (hvt : bootBuiltins y = some (.type t.name) := by decide +kernel)
    (hn : x ≠ "__name__" := by decide +kernel) (hdb : (x == ("__debug__" : Str)) = false := by decide +kernel) (hnt : y ≠ "__name__" := by decide +kernel) (hdbt : (y == ("__debug__" : Str)) = false := by decide +kernel)
    (hs : starEach [e, .Name y q] X.env = (false, eval e X.env) :: starEach [.Name y q] X.env := by rfl) (hs2 : starEach [.Name y q] X.env = (false, eval (.Name y q) X.env) :: starEach [] X.env := by rfl) (hpl : (backTo pos (starEach [.Name y q] X.env)).any (·.1) = false := by rfl) :
    GE X W (.Call (.Name x p) [e, .Name y q] [] pos) (dIsi t d) := by
  have hy : PE X (.Name y q) (tC (.ty t.name)) := pe_bltn hgt hmt hvt rfl hnt hdbt
  refine PE.imp (pe_callB call_isi hg hm hv (pa_cons he (pa_cons hy pa_nil hs2) hs) hn hdb hs hpl) fun σ H Q ⟨g, l, h, S, R, A⟩ => ?_
  refine tG_of S R A fun v h1 g1 H1 x E S1 R1 r1 A1 => ?_
  show rIsi X.K [x, .ty t.name] H1 Q
  cases et : tyOf h1 v with
  | none => rw [et] at A1; exact A1.elim
  | some a =>
    rw [et] at A1
    exact ⟨x, _, _, _, isiB a t, rfl, .ty _, tyOf_ok R1 r1 et, kit_ty (kitB_ok a t ht), A1 g1 H1 _ Ext.refl R1 (by simp only [VR])⟩

/-! ### slices -/
def cut {α : Type} (l : List α) (lo hi : Option Int) : List α := (l.drop (HT.sIx l.length 0 lo)).take (HT.sIx l.length l.length hi - HT.sIx l.length 0 lo)
abbrev DO := Loc → Hv → Res (Option Int)
def oNone : DO := fun _ h => .ok none h
def oSome (d : Den) : DO := fun l h => (d l h).bind fun v h1 => match v with
  | .int i => .ok (some i) h1
  | _ => .fail
abbrev orl : Gh → Hp → Option Int → Option Int → Prop := fun _ _ a b => a = b
def GO (X : Cx) (W : WX) (e : Option Expr) (d : DO) : Prop := PO X e (tG X.K W orl d)
theorem PO.imp {e : Option Expr} {t t' : TO} (p : PO X e t) (h : ∀ σ H Q, t' σ H Q → t σ H Q) : PO X e t' := ⟨fun pins s σ H Q I q => p.run pins s σ H Q I (h σ H Q q)⟩
theorem go_none : GO X W none oNone := PO.imp po_none fun σ H Q ⟨g, l, h, S, R, A⟩ => A g H none Ext.refl R rfl
theorem go_some {e : Expr} {d : Den} (he : GE X W e d) : GO X W (some e) (oSome d) := by
  refine PO.imp (po_some he) fun σ H Q ⟨g, l, h, S, R, A⟩ => ?_
  refine tG_of S R A fun v h1 g1 H1 x E S1 R1 r1 A1 => ?_
  cases v with
  | int i =>
    simp only [VR] at r1
    exact ⟨i, r1, A1 g1 H1 _ Ext.refl R1 rfl⟩
  | _ => exact A1.elim
def vCut (v : Val) (lo hi : Option Int) (h : Hv) : Res Val := match v with
  | .tup l => .ok (.tup (cut l lo hi)) h
  | .str s => if s.length ≤ lineN then .ok (.str (cut s lo hi)) h else .fail
  | v => match lstOf h v with
    | some l => .ok (.lst (cut l lo hi)) h
    | none => .fail
def dCut (d : Den) (lo hi : DO) : Den := fun l h => (d l h).bind fun v h1 => (lo l h1).bind fun a h2 => (hi l h2).bind fun b h3 => vCut v a b h3
theorem VRs.cut' {K : PySem.W.Frag} {g : Gh} {H : Hp} {l : List Val} {xs : List V} (r : VRs K g H l xs) (lo hi : Option Int) : VRs K g H (GH.cut l lo hi) (cutV xs lo hi) := by
  unfold GH.cut cutV
  rw [← r.length]
  exact (r.drop _).take _
theorem cut_all {α : Type} (l : List α) {lo hi : Option Int} (h : HT.sIx l.length 0 lo = 0 ∧ HT.sIx l.length l.length hi = l.length) : cut l lo hi = l := by
  unfold cut
  rw [h.1, h.2]
  simp
end
end GH
set_option Elab.async false
set_option linter.all false
set_option maxRecDepth 100000
set_option maxHeartbeats 1000000
set_option autoImplicit false
/-! Slices, built-in functions of one argument, methods of lists and dicts, stores. -/
namespace GH
open PySem PySem.Spec PyProof.Rows L2

section
variable {X : Cx} {W : WX}
theorem cutS_eq (s : List Nat) (lo hi : Option Int) : cutS (sOf s) lo hi = sOf (cut s lo hi) := by
  unfold cutS cut sOf
  simp [Str.length]
theorem ge_cut {e : Expr} {d : Den} {lo hi : Option Expr} {dl dh : DO} {pos p2 : Pos} (he : GE X W e d) (hl : GO X W lo dl) (hh : GO X W hi dh) : GE X W (.Subscript e (.Slice lo hi none p2) pos) (dCut d dl dh) := by
  refine PE.imp (pe_slice (sl_list.or (sl_tupA.or sl_str)) he hl hh) fun σ H Q ⟨g, l, h, S, R, A⟩ => ?_
  refine tG_of S R A fun v h1 g1 H1 x E S1 R1 r1 A1 => ?_
  refine tG_of S1 R1 A1 fun a h2 g2 H2 a' E2 S2 R2 e2 A2 => ?_
  refine tG_of S2 R2 A2 fun b h3 g3 H3 b' E3 S3 R3 e3 A3 => ?_
  obtain rfl : a = a' := e2
  obtain rfl : b = b' := e3
  have r := (r1.ext R1 E2).ext R2 E3
  unfold vCut at A3
  split at A3
  · rename_i k
    simp only [VR] at r
    obtain ⟨p, xs, rfl, s, rs⟩ := r
    refine .inr (.inl ⟨p, xs, rfl, s, fun hw => ?_, fun _ q nq => ?_⟩)
    · refine A3 g3 H3 _ Ext.refl R3 ?_
      rw [cut_all k (by rw [rs.length]; exact hw)]
      simp only [VR]
      exact ⟨p, xs, rfl, s, rs⟩
    · obtain ⟨E4, R4⟩ := R3.grow (o := .tup (cutV xs a b)) nq
      refine A3 g3 _ (.ref q) E4 R4 ?_
      simp only [VR]
      exact ⟨q, _, rfl, SqT.of upd_same, (rs.cut' a b).ext R3 E4⟩
  · rename_i k
    split at A3
    · rename_i hl
      simp only [VR] at r
      subst r
      refine .inr (.inr ⟨_, rfl, by rw [sOf_len]; exact line_ok hl, ?_⟩)
      rw [cutS_eq]
      exact A3 g3 H3 _ Ext.refl R3 (by simp only [VR])
    · exact A3.elim
  · split at A3
    · rename_i k hk
      obtain ⟨p, xs, rfl, s, rs⟩ := lstOf_ok R3 r hk
      refine .inl ⟨p, xs, rfl, SqL.of s, fun q nq => ?_⟩
      obtain ⟨E4, R4⟩ := R3.grow (o := .lst (cutV xs a b)) nq
      refine A3 g3 _ (.ref q) E4 R4 ?_
      simp only [VR]
      exact ⟨q, _, rfl, R3.fresh nq, upd_same, (rs.cut' a b).ext R3 E4⟩
    · exact A3.elim
/-- a list reversed: xs[::-1] -/
def vRev (v : Val) (h : Hv) : Res Val := match lstOf h v with
  | some l => .ok (.lst l.reverse) h
  | none => .fail
def dFn (f : Val → Hv → Res Val) (d : Den) : Den := fun l h => (d l h).bind f
theorem ge_rev {e : Expr} {d : Den} {k : Nat} {p1 p2 p3 pos : Pos} (he : GE X W e d) : GE X W (.Subscript e (.Slice none none (some (.UnaryOp .USub (.Constant (.int 1) k p1) p2)) p3) pos) (dFn vRev d) := by
  refine PE.imp (pe_revL he) fun σ H Q ⟨g, l, h, S, R, A⟩ => ?_
  refine tG_of S R A fun v h1 g1 H1 x E S1 R1 r1 A1 => ?_
  unfold vRev at A1
  split at A1
  · rename_i k hk
    obtain ⟨p, xs, rfl, s, rs⟩ := lstOf_ok R1 r1 hk
    refine ⟨p, xs, rfl, SqL.of s, fun q nq => ?_⟩
    obtain ⟨E4, R4⟩ := R1.grow (o := .lst xs.reverse) nq
    refine A1 g1 _ (.ref q) E4 R4 ?_
    simp only [VR]
    exact ⟨q, _, rfl, R1.fresh nq, upd_same, rs.reverse.ext R1 E4⟩
  · exact A1.elim

/-! ### f(e) -/
def C1 (X : Cx) (f : Value) (d : Val → Hv → Res Val) : Prop := ∃ r, CallR X f r ∧ ∀ (W : WX) (g : Gh) (H : Hp) (h : Hv) (σ : L2.St) (v : Val) (x : V) (Q : VK), HR X.K g H h → VR X.K g H v x → After X.K W (vr X.K) σ g H Q (d v h) → r [x] H Q
theorem ge_b1 {id : String} {f : Val → Hv → Res Val} {e : Expr} {d : Den} {x : Str} {p pos : Pos} (hf : C1 X (.builtin id) f) (he : GE X W e d) (hm : X.mg x = none) (hg : Gl X x := by rfl) (hv : bootBuiltins x = some (.builtin id) := by decide +kernel) (hn : x ≠ "__name__" := by decide +kernel) (hdb : (x == ("__debug__" : Str)) = false := by decide +kernel)
    (hst : starEach [e] X.env = (false, eval e X.env) :: starEach [] X.env := by rfl) (hpl : (backTo pos (starEach [] X.env)).any (·.1) = false := by rfl) : GE X W (.Call (.Name x p) [e] [] pos) (dFn f d) := by
  obtain ⟨r, hc, hr⟩ := hf
  refine PE.imp (pe_callB hc hg hm hv (pa_cons he pa_nil hst) hn hdb hst hpl) fun σ H Q ⟨g, l, h, S, R, A⟩ => ?_
  exact tG_of S R A fun v h1 g1 H1 x E S1 R1 r1 A1 => hr W g1 H1 h1 σ v x Q R1 r1 A1
theorem ge_t1 {T : String} {f : Val → Hv → Res Val} {e : Expr} {d : Den} {x : Str} {p pos : Pos} (hf : C1 X (.type T) f) (he : GE X W e d) (hm : X.mg x = none) (hg : Gl X x := by rfl) (hv : bootBuiltins x = some (.type T) := by decide +kernel) (hn : x ≠ "__name__" := by decide +kernel) (hdb : (x == ("__debug__" : Str)) = false := by decide +kernel)
    (hst : starEach [e] X.env = (false, eval e X.env) :: starEach [] X.env := by rfl) (hpl : (backTo pos (starEach [] X.env)).any (·.1) = false := by rfl) : GE X W (.Call (.Name x p) [e] [] pos) (dFn f d) := by
  obtain ⟨r, hc, hr⟩ := hf
  refine PE.imp (pe_callTy hc hg hm hv (pa_cons he pa_nil hst) hn hdb hst hpl) fun σ H Q ⟨g, l, h, S, R, A⟩ => ?_
  exact tG_of S R A fun v h1 g1 H1 x E S1 R1 r1 A1 => hr W g1 H1 h1 σ v x Q R1 r1 A1
def vAbs (v : Val) (h : Hv) : Res Val := match v with
  | .int i => .ok (.int (if i < 0 then -i else i)) h
  | _ => .fail
theorem c1_abs : C1 X (.builtin "abs") vAbs := ⟨_, call_abs, fun W g H h σ v x Q R r A => by
  unfold vAbs at A
  split at A
  · simp only [VR] at r
    subst r
    exact ⟨_, rfl, A g H _ Ext.refl R (by simp only [VR])⟩
  · exact A.elim⟩
def vInt (v : Val) (h : Hv) : Res Val := match v with
  | .int i => .ok (.int i) h
  | .bl b => .ok (.int (if b then 1 else 0)) h
  | _ => .fail
theorem c1_int : C1 X (.type "int") vInt := ⟨_, call_int1, fun W g H h σ v x Q R r A => by
  unfold vInt at A
  split at A
  · simp only [VR] at r
    subst r
    exact .inl ⟨_, rfl, A g H _ Ext.refl R (by simp only [VR])⟩
  · simp only [VR] at r
    subst r
    exact .inr ⟨_, rfl, A g H _ Ext.refl R (by simp only [VR])⟩
  · exact A.elim⟩
def intsOf : List Val → Option (List Int)
  | [] => some []
  | .int i :: l => (intsOf l).map (i :: ·)
  | _ :: _ => none
def blsOf : List Val → Option (List Bool)
  | [] => some []
  | .bl i :: l => (blsOf l).map (i :: ·)
  | _ :: _ => none
theorem intsOf_ok {K : PySem.W.Frag} {g : Gh} {H : Hp} : ∀ {l : List Val} {ns : List Int} {xs : List V}, intsOf l = some ns → VRs K g H l xs → xs = ns.map V.int
  | [], ns, xs, e, r => by simp only [intsOf, Option.some.injEq] at e; subst e; simp only [VRs] at r; exact r
  | .int i :: l, ns, xs, e, r => by
    simp only [intsOf, Option.map_eq_some_iff] at e
    obtain ⟨ms, e, rfl⟩ := e
    simp only [VRs, VR] at r
    obtain ⟨x, xs', rfl, rfl, r⟩ := r
    rw [intsOf_ok e r]; rfl
theorem blsOf_ok {K : PySem.W.Frag} {g : Gh} {H : Hp} : ∀ {l : List Val} {ns : List Bool} {xs : List V}, blsOf l = some ns → VRs K g H l xs → xs = ns.map V.bl
  | [], ns, xs, e, r => by simp only [blsOf, Option.some.injEq] at e; subst e; simp only [VRs] at r; exact r
  | .bl i :: l, ns, xs, e, r => by
    simp only [blsOf, Option.map_eq_some_iff] at e
    obtain ⟨ms, e, rfl⟩ := e
    simp only [VRs, VR] at r
    obtain ⟨x, xs', rfl, rfl, r⟩ := r
    rw [blsOf_ok e r]; rfl
def vSum (v : Val) (h : Hv) : Res Val := match lstOf h v with
  | some l => match intsOf l with
    | some ns => .ok (.int ns.sum) h
    | none => .fail
  | none => .fail
theorem c1_sum (hc : X.calm = true) : C1 X (.builtin "sum") vSum := ⟨_, cr_sum hc, fun W g H h σ v x Q R r A => by
  unfold vSum at A
  split at A
  · rename_i l hl
    split at A
    · rename_i ns hn
      obtain ⟨a, xs, rfl, s, rs⟩ := lstOf_ok R r hl
      have e := intsOf_ok hn rs
      subst e
      exact ⟨a, ns, rfl, SqL.of s, A g H _ Ext.refl R (by simp only [VR])⟩
    · exact A.elim
  · exact A.elim⟩
def vAll (v : Val) (h : Hv) : Res Val := match lstOf h v with
  | some l => match blsOf l with
    | some ns => .ok (.bl (ns.all id)) h
    | none => .fail
  | none => .fail
def vAny (v : Val) (h : Hv) : Res Val := match lstOf h v with
  | some l => match blsOf l with
    | some ns => .ok (.bl (ns.any id)) h
    | none => .fail
  | none => .fail
theorem c1_all (hc : X.calm = true) : C1 X (.builtin "all") vAll := ⟨_, cr_all hc, fun W g H h σ v x Q R r A => by
  unfold vAll at A
  split at A
  · rename_i l hl
    split at A
    · rename_i ns hn
      obtain ⟨a, xs, rfl, s, rs⟩ := lstOf_ok R r hl
      have e := blsOf_ok hn rs
      subst e
      exact ⟨a, ns, rfl, SqL.of s, A g H _ Ext.refl R (by simp only [VR])⟩
    · exact A.elim
  · exact A.elim⟩
theorem c1_any (hc : X.calm = true) : C1 X (.builtin "any") vAny := ⟨_, cr_any hc, fun W g H h σ v x Q R r A => by
  unfold vAny at A
  split at A
  · rename_i l hl
    split at A
    · rename_i ns hn
      obtain ⟨a, xs, rfl, s, rs⟩ := lstOf_ok R r hl
      have e := blsOf_ok hn rs
      subst e
      exact ⟨a, ns, rfl, SqL.of s, A g H _ Ext.refl R (by simp only [VR])⟩
    · exact A.elim
  · exact A.elim⟩
def vTuple (v : Val) (h : Hv) : Res Val := match seqOf h v with
  | some l => .ok (.tup l) h
  | none => .fail
theorem c1_tuple : C1 X (.type "tuple") vTuple := ⟨_, call_tuple_of, fun W g H h σ v x Q R r A => by
  unfold vTuple at A
  split at A
  · rename_i l hl
    obtain ⟨a, xs, rfl, s, rs⟩ := seqOf_ok R r hl
    rcases s with s | s
    · refine ⟨a, xs, rfl, .inl ⟨s, fun q nq => ?_⟩⟩
      obtain ⟨E4, R4⟩ := R.grow (o := .tup xs) nq
      refine A g _ (.ref q) E4 R4 ?_
      simp only [VR]
      exact ⟨q, _, rfl, SqT.of upd_same, rs.ext R E4⟩
    · refine ⟨a, xs, rfl, .inr ⟨s, A g H _ Ext.refl R ?_⟩⟩
      simp only [VR]
      exact ⟨a, xs, rfl, s, rs⟩
  · exact A.elim⟩
def vList (v : Val) (h : Hv) : Res Val := match seqOf h v with
  | some l => .ok (.lst l) h
  | none => .fail
theorem c1_list : C1 X (.type "list") vList := ⟨_, call_list_of, fun W g H h σ v x Q R r A => by
  unfold vList at A
  split at A
  · rename_i l hl
    obtain ⟨a, xs, rfl, s, rs⟩ := seqOf_ok R r hl
    refine ⟨a, xs, rfl, s, fun q nq => ?_⟩
    obtain ⟨E4, R4⟩ := R.grow (o := .lst xs) nq
    refine A g _ (.ref q) E4 R4 ?_
    simp only [VR]
    exact ⟨q, _, rfl, R.fresh nq, upd_same, rs.ext R E4⟩
  · exact A.elim⟩
/-- .. that is written later on -/
def vListM (v : Val) (h : Hv) : Res Val := match seqOf h v with
  | some l => .ok (.ref h.length) (h ++ [.lst l])
  | none => .fail
theorem push_ok {W : WX} {σ : L2.St} {g : Gh} {H : Hp} {h : Hv} {Q : VK} {ob : Ob} {o : HO} (R : HR X.K g H h) (A : After X.K W (vr X.K) σ g H Q (.ok (.ref h.length) (h ++ [ob]))) {q : Addr} (nq : H q = none)
    (ok : ∀ E : Ext g H ⟨g.m ++ [q], g.r⟩ (upd H q o), OR X.K ⟨g.m ++ [q], g.r⟩ (upd H q o) q ob) : Q (.ref q) (upd H q o) := by
  have E : Ext g H ⟨g.m ++ [q], g.r⟩ (upd H q o) := ⟨⟨[q], rfl, fun b hb => by rw [List.mem_singleton.mp hb]; exact nq⟩, rfl, fun b u e hb => by rw [upd_ne (ne_of_none e nq)]; exact e, fun b u e => ⟨u, by rw [upd_ne (ne_of_none e nq)]; exact e⟩⟩
  obtain ⟨_, R1⟩ := R.push (o := o) (ob := ob) nq (ok E)
  refine A _ _ (.ref q) E R1 ?_
  simp only [VR]
  refine ⟨q, rfl, ?_⟩
  show (g.m ++ [q])[h.length]? = some q
  rw [← R.len]
  simp
theorem c1_listM : C1 X (.type "list") vListM := ⟨_, call_list_of, fun W g H h σ v x Q R r A => by
  unfold vListM at A
  split at A
  · rename_i l hl
    obtain ⟨a, xs, rfl, s, rs⟩ := seqOf_ok R r hl
    exact ⟨a, xs, rfl, s, fun q nq => push_ok R A nq fun E => ⟨xs, upd_same, rs.ext R E⟩⟩
  · exact A.elim⟩
/-- dict(d): a copy -/
def vDict (v : Val) (h : Hv) : Res Val := match dicOf h v with
  | some l => .ok (.ref h.length) (h ++ [.dic l])
  | none => .fail
theorem c1_dict : C1 X (.type "dict") vDict := ⟨_, call_dictD, fun W g H h σ v x Q R r A => by
  unfold vDict at A
  split at A
  · rename_i l hl
    obtain ⟨i, a, ks, rfl, rfl, hm, hi, ha, d⟩ := dicOf_ok R r hl
    exact ⟨a, ks, rfl, .inl ha, fun q nq => push_ok R A nq fun E => ⟨ks, upd_same, d.1, d.2.ext R E⟩⟩
  · exact A.elim⟩

/-! ### methods -/
def isLst (h : Hv) (v : Val) : Bool := (lstOf h v).isSome
/-- x.append(e): the receiver stands first -/
def vAppend (x v : Val) (h : Hv) : Res Val := match x with
  | .ref i => match h[i]? with
    | some (.lst l) => if l.length < lineN then .ok .non (h.set i (.lst (l ++ [v]))) else .fail
    | _ => .fail
  | _ => .fail
def dMeth1 (ok : Hv → Val → Bool) (f : Val → Val → Hv → Res Val) (o e : Den) : Den := fun l h => (o l h).bind fun x h1 => if ok h1 x = true then (e l h1).bind fun v h2 => f x v h2 else .fail
theorem lst_ty {K : PySem.W.Frag} {g : Gh} {H : Hp} {h : Hv} {v : Val} {x : V} (R : HR K g H h) (r : VR K g H v x) (e : isLst h v = true) : tyV K "list" x H := by
  unfold isLst at e
  obtain ⟨l, hl⟩ := Option.isSome_iff_exists.mp e
  obtain ⟨a, xs, rfl, s, _⟩ := lstOf_ok R r hl
  exact .inl ⟨rfl, xs, SqL.of s⟩
def M1R (X : Cx) (T id : String) (ok : Hv → Val → Bool) (f : Val → Val → Hv → Res Val) : Prop := (∀ (g : Gh) (H : Hp) (h : Hv) (v : Val) (x : V), HR X.K g H h → VR X.K g H v x → ok h v = true → tyV X.K T x H) ∧
  ∃ r, MtR X id r ∧ ∀ (W : WX) (g : Gh) (H : Hp) (h : Hv) (σ : L2.St) (v u : Val) (x y : V) (Q : VK), HR X.K g H h → VR X.K g H v x → VR X.K g H u y → After X.K W (vr X.K) σ g H Q (f v u h) → r x [y] H Q
theorem ge_meth1 {T id : String} {name : Str} {ok : Hv → Val → Bool} {f : Val → Val → Hv → Res Val} {o e : Expr} {dx de : Den} {apos cpos : Pos} (hf : M1R X T id ok f) (pa : PlainAttrs T) (slot : Slot T name id) (hty : typeOf (.builtin id) = pure (.type "method_descriptor")) (ho : GE X W o dx) (he : GE X W e de)
    (hbase : attributeBase o name X.env (eval o X.env) = eval o X.env := by rfl)
    (hfew : ((backTo cpos (starEach [e] X.env)).all (fun x => !x.1) && (backToKw cpos (keywordEach [] X.env)).all (fun x => x.1.isSome)
      && decide (([e] : List Expr).length + ([] : List Keyword).length + (if ([] : List Keyword).isEmpty then 0 else 1) < 30)) = true := by rfl)
    (hline : (apos.endLine == cpos.line) = true := by rfl) (hs : starEach [e] X.env = (false, eval e X.env) :: starEach [] X.env := by rfl) (hplain : (backTo cpos (starEach [] X.env)).any (·.1) = false := by rfl) :
    GE X W (.Call (.Attribute o name apos) [e] [] cpos) (dMeth1 ok f dx de) := by
  obtain ⟨hty2, r, hc, hr⟩ := hf
  refine PE.imp (pe_bm pa slot hty hc ho (pa_cons he pa_nil hs) hbase hfew hline hs hplain) fun σ H Q ⟨g, l, h, S, R, A⟩ => ?_
  refine tG_of S R A fun v h1 g1 H1 x E S1 R1 r1 A1 => ?_
  split at A1
  · rename_i ok1
    refine ⟨hty2 g1 H1 h1 v x R1 r1 ok1, ?_⟩
    exact tG_of S1 R1 A1 fun u h2 g2 H2 y E2 S2 R2 r2 A2 => hr W g2 H2 h2 σ v u x y Q R2 (r1.ext R1 E2) r2 A2
  · exact A1.elim
theorem m1_append : M1R X "list" "list.append" isLst vAppend := ⟨fun g H h v x R r e => lst_ty R r e, _, mt_append, fun W g H h σ v u x y Q R rv ru A => by
  unfold vAppend at A
  split at A
  · rename_i i
    split at A
    · rename_i l hl
      split at A
      · rename_i hz
        simp only [VR] at rv
        obtain ⟨a, rfl, hm⟩ := rv
        obtain ⟨xs, e1, rs⟩ := ref_at R hl hm
        refine ⟨a, xs, y, rfl, rfl, e1, by rw [← rs.length]; exact line_lt hz, ?_⟩
        obtain ⟨E, R1⟩ := R.write (ob := .lst (l ++ [u])) (o' := .lst (xs ++ [y])) hm fun E => ⟨_, upd_same, (rs.ext R E).append (.one (ru.ext R E))⟩
        exact A g _ .non E R1 (by simp only [VR])
      · exact A.elim
    · exact A.elim
  · exact A.elim⟩
theorem ge_append {o e : Expr} {dx de : Den} {apos cpos : Pos} (ho : GE X W o dx) (he : GE X W e de) (hbase : attributeBase o "append" X.env (eval o X.env) = eval o X.env := by rfl)
    (hfew : ((backTo cpos (starEach [e] X.env)).all (fun x => !x.1) && (backToKw cpos (keywordEach [] X.env)).all (fun x => x.1.isSome)
      && decide (([e] : List Expr).length + ([] : List Keyword).length + (if ([] : List Keyword).isEmpty then 0 else 1) < 30)) = true := by rfl)
    (hline : (apos.endLine == cpos.line) = true := by rfl) (hs : starEach [e] X.env = (false, eval e X.env) :: starEach [] X.env := by rfl) (hplain : (backTo cpos (starEach [] X.env)).any (·.1) = false := by rfl) :
    GE X W (.Call (.Attribute o "append" apos) [e] [] cpos) (dMeth1 isLst vAppend dx de) := ge_meth1 m1_append PySem.F.plainAttrs_list PySem.F.slot_list_append PySem.F.type_list_append ho he hbase hfew hline hs hplain
/-- x.extend(e) -/
def vExtend (x v : Val) (h : Hv) : Res Val := match x with
  | .ref i => match h[i]?, seqOf h v with
    | some (.lst l), some k => if l.length + k.length ≤ lineN then .ok .non (h.set i (.lst (l ++ k))) else .fail
    | _, _ => .fail
  | _ => .fail
def rExtT (K : PySem.W.Frag) : V → List V → Hp → VK → Prop := fun x vs H Q => ∃ l b xs zs, x = .ref l ∧ vs = [.ref b] ∧ H l = some (.lst xs) ∧ SqT K H b zs ∧ xs.length + zs.length ≤ sizeLine ∧ Q .non (upd H l (.lst (xs ++ zs)))
theorem m1_extend_l : M1R X "list" "list.extend" isLst (fun x v h => if (lstOf h v).isSome then vExtend x v h else .fail) := ⟨fun g H h v x R r e => lst_ty R r e, _, mt_extend, fun W g H h σ v u x y Q R rv ru A => by
  dsimp only at A
  split at A
  · rename_i hs
    obtain ⟨k, hk⟩ := Option.isSome_iff_exists.mp hs
    have hk2 : seqOf h u = some k := by cases u <;> first | exact hk | (simp [lstOf] at hk)
    unfold vExtend at A
    split at A
    · rename_i i
      split at A
      · rename_i l k' hl hk'
        rw [hk2] at hk'
        cases hk'
        split at A
        · rename_i hz
          simp only [VR] at rv
          obtain ⟨a, rfl, hm⟩ := rv
          obtain ⟨xs, e1, rs⟩ := ref_at R hl hm
          obtain ⟨b, zs, rfl, s2, rz⟩ := lstOf_ok R ru hk
          refine ⟨a, b, xs, zs, rfl, rfl, e1, s2, by rw [← rs.length, ← rz.length]; exact line_ok hz, ?_⟩
          obtain ⟨E, R1⟩ := R.write (ob := .lst (l ++ k)) (o' := .lst (xs ++ zs)) hm fun E => ⟨_, upd_same, (rs.append rz).ext R E⟩
          exact A g _ .non E R1 (by simp only [VR])
        · exact A.elim
      · exact A.elim
    · exact A.elim
  · exact A.elim⟩
/-- x.pop() -/
def vPop (x : Val) (h : Hv) : Res Val := match x with
  | .ref i => match h[i]? with
    | some (.lst l) => match l.getLast? with
      | some v => .ok v (h.set i (.lst l.dropLast))
      | none => .fail
    | _ => .fail
  | _ => .fail
def dMeth0 (ok : Hv → Val → Bool) (f : Val → Hv → Res Val) (o : Den) : Den := fun l h => (o l h).bind fun x h1 => if ok h1 x = true then f x h1 else .fail
theorem ge_meth0 {T id : String} {name : Str} {ok : Hv → Val → Bool} {f : Val → Hv → Res Val} {o : Expr} {dx : Den} {apos cpos : Pos} {r : V → List V → Hp → VK → Prop} (pa : PlainAttrs T) (slot : Slot T name id) (hty : typeOf (.builtin id) = pure (.type "method_descriptor")) (hc : MtR X id r)
    (hty2 : ∀ (g : Gh) (H : Hp) (h : Hv) (v : Val) (x : V), HR X.K g H h → VR X.K g H v x → ok h v = true → tyV X.K T x H)
    (hr : ∀ (W : WX) (g : Gh) (H : Hp) (h : Hv) (σ : L2.St) (v : Val) (x : V) (Q : VK), HR X.K g H h → VR X.K g H v x → After X.K W (vr X.K) σ g H Q (f v h) → r x [] H Q) (ho : GE X W o dx)
    (hbase : attributeBase o name X.env (eval o X.env) = eval o X.env := by rfl) (hline : (apos.endLine == cpos.line) = true := by rfl) : GE X W (.Call (.Attribute o name apos) [] [] cpos) (dMeth0 ok f dx) := by
  refine PE.imp (pe_bm0 pa slot hty hc ho hbase hline) fun σ H Q ⟨g, l, h, S, R, A⟩ => ?_
  refine tG_of S R A fun v h1 g1 H1 x E S1 R1 r1 A1 => ?_
  split at A1
  · rename_i ok1
    exact ⟨hty2 g1 H1 h1 v x R1 r1 ok1, hr W g1 H1 h1 σ v x Q R1 r1 A1⟩
  · exact A1.elim
theorem VRs.dropLast {K : PySem.W.Frag} {g : Gh} {H : Hp} {l : List Val} {xs : List V} (r : VRs K g H l xs) : VRs K g H l.dropLast xs.dropLast := by
  rw [List.dropLast_eq_take, List.dropLast_eq_take, r.length]
  exact r.take _
theorem ge_pop {o : Expr} {dx : Den} {apos cpos : Pos} (ho : GE X W o dx) (hbase : attributeBase o "pop" X.env (eval o X.env) = eval o X.env := by rfl) (hline : (apos.endLine == cpos.line) = true := by rfl) : GE X W (.Call (.Attribute o "pop" apos) [] [] cpos) (dMeth0 isLst vPop dx) :=
  ge_meth0 PySem.F.plainAttrs_list PySem.F.slot_list_pop PySem.F.type_list_pop mt_pop (fun g H h v x R r e => lst_ty R r e) (fun W g H h σ v x Q R rv A => by
    unfold vPop at A
    split at A
    · rename_i i
      split at A
      · rename_i l hl
        split at A
        · rename_i w hw
          simp only [VR] at rv
          obtain ⟨a, rfl, hm⟩ := rv
          obtain ⟨xs, e1, rs⟩ := ref_at R hl hm
          rw [List.getLast?_eq_getElem?] at hw
          obtain ⟨y, hy, ry⟩ := rs.get hw
          refine ⟨a, xs, y, rfl, rfl, e1, by rw [← rs.length]; exact hy, ?_⟩
          obtain ⟨E, R1⟩ := R.write (ob := .lst l.dropLast) (o' := .lst xs.dropLast) hm fun E => ⟨_, upd_same, rs.dropLast.ext R E⟩
          exact A g _ y E R1 (ry.ext R E)
        · exact A.elim
      · exact A.elim
    · exact A.elim) ho hbase hline
/-- d.get(k), d.get(k, x) -/
def isDic (h : Hv) (v : Val) : Bool := (dicOf h v).isSome
def dGet1 (o e : Den) : Den := fun l h => (o l h).bind fun x h1 => if isDic h1 x = true then (e l h1).bind fun k h2 => (match dicOf h2 x, keyOf k with
  | some l, some _ => .ok ((dGet l k).getD .non) h2
  | _, _ => .fail) else .fail
def dGet2 (o e f : Den) : Den := fun l h => (o l h).bind fun x h1 => if isDic h1 x = true then (e l h1).bind fun k h2 => (f l h2).bind fun z h3 => (match dicOf h3 x, keyOf k with
  | some l, some _ => .ok ((dGet l k).getD z) h3
  | _, _ => .fail) else .fail
theorem dic_is {K : PySem.W.Frag} {g : Gh} {H : Hp} {h : Hv} {v : Val} {x : V} (R : HR K g H h) (r : VR K g H v x) (e : isDic h v = true) : ∃ a, x = .ref a ∧ IsD H a := by
  unfold isDic at e
  obtain ⟨l, hl⟩ := Option.isSome_iff_exists.mp e
  obtain ⟨i, a, ks, rfl, rfl, hm, hi, ha, d⟩ := dicOf_ok R r hl
  exact ⟨a, rfl, .inl ⟨ks, .inl ha⟩⟩
theorem dget_at {K : PySem.W.Frag} {g : Gh} {H : Hp} {h : Hv} {v k : Val} {x y : V} {l : List (Val × Val)} {kk : Key} (R : HR K g H h) (r : VR K g H v x) (rk : VR K g H k y) (hl : dicOf h v = some l) (hk : keyOf k = some kk) : ∃ a o, x = .ref a ∧ DGet H a y o ∧ ∀ z zx, VR K g H z zx → VR K g H ((dGet l k).getD z) (o.getD zx) := by
  obtain ⟨i, a, ks, rfl, rfl, hm, hi, ha, d⟩ := dicOf_ok R r hl
  obtain ⟨d1, d2⟩ := DR.get hk d
  refine ⟨a, valV ks kk, rfl, ?_, fun z zx rz => ?_⟩
  · rw [key_V rk hk]; exact DGet.k ha
  · cases e : dGet l k with
    | none => rw [d2 e]; exact rz
    | some w => obtain ⟨w', e1, r1⟩ := d1 w e; rw [e1]; exact r1
theorem ge_get1 {o e : Expr} {dx de : Den} {apos cpos : Pos} (hu : X.A.units + 1 < cLine) (ho : GE X W o dx) (he : GE X W e de) (m : M1 X o "get" apos e cpos := by exact ⟨rfl, rfl, rfl, rfl⟩) : GE X W (.Call (.Attribute o "get" apos) [e] [] cpos) (dGet1 dx de) := by
  refine PE.imp (pe_dget1 hu ho he m) fun σ H Q ⟨g, l, h, S, R, A⟩ => ?_
  refine tG_of S R A fun v h1 g1 H1 x E S1 R1 r1 A1 => ?_
  split at A1
  · rename_i ok1
    obtain ⟨a, rfl, hd⟩ := dic_is R1 r1 ok1
    refine ⟨a, rfl, hd, ?_⟩
    refine tG_of S1 R1 A1 fun u h2 g2 H2 y E2 S2 R2 r2 A2 => ?_
    split at A2
    · rename_i k kk hl hk
      obtain ⟨a', o, e1, dg, hz⟩ := dget_at R2 (r1.ext R1 E2) r2 hl hk
      cases e1
      exact ⟨o, dg, A2 g2 H2 _ Ext.refl R2 (hz .non .non (by simp only [VR]))⟩
    · exact A2.elim
  · exact A1.elim
theorem ge_get2 {o e f : Expr} {dx de df : Den} {apos cpos : Pos} (hu : X.A.units + 1 < cLine) (ho : GE X W o dx) (he : GE X W e de) (hf : GE X W f df) (m : M2 X o "get" apos e f cpos := by exact ⟨rfl, rfl, rfl, rfl⟩) : GE X W (.Call (.Attribute o "get" apos) [e, f] [] cpos) (dGet2 dx de df) := by
  refine PE.imp (pe_dget2 hu ho he hf m) fun σ H Q ⟨g, l, h, S, R, A⟩ => ?_
  refine tG_of S R A fun v h1 g1 H1 x E S1 R1 r1 A1 => ?_
  split at A1
  · rename_i ok1
    obtain ⟨a, rfl, hd⟩ := dic_is R1 r1 ok1
    refine ⟨a, rfl, hd, ?_⟩
    refine tG_of S1 R1 A1 fun u h2 g2 H2 y E2 S2 R2 r2 A2 => ?_
    refine tG_of S2 R2 A2 fun w h3 g3 H3 z E3 S3 R3 r3 A3 => ?_
    split at A3
    · rename_i k kk hl hk
      obtain ⟨a', o, e1, dg, hz⟩ := dget_at R3 ((r1.ext R1 E2).ext R2 E3) (r2.ext R2 E3) hl hk
      cases e1
      exact ⟨o, dg, A3 g3 H3 _ Ext.refl R3 (hz w z r3)⟩
    · exact A3.elim
  · exact A1.elim

/-! ### stores -/
/-- o[i] = v -/
def vSet (o i v : Val) (h : Hv) : Option Hv := match o with
  | .ref a => match h[a]? with
    | some (.dic l) => (match keyOf i with
      | some _ => if l.length < lineN then some (h.set a (.dic (dPut l i v))) else none
      | none => none)
    | some (.lst l) => (match i with
      | .int k => (match ixN l.length k with
        | some j => some (h.set a (.lst (l.set j v)))
        | none => none)
      | _ => none)
    | _ => none
  | _ => none
def rSetD : V → V → V → Hp → (Hp → Prop) → Prop := fun o i v H Q => ∃ a H', o = .ref a ∧ DPut H a i v H' ∧ Q H'
theorem set_dict (hu : X.A.units + 1 < cLine) : PSet X rSetD := by
  intro pins s σ H o i v ov iv u Q I ro ri rv h
  obtain ⟨a, H', rfl, d, q⟩ := h
  obtain rfl : ov = Value.ref a := ro
  exact d_setItem hu I d ri rv fun s' I' => ⟨H', I', q⟩
theorem PSet.or {t t' : TSet} (p : PSet X t) (p' : PSet X t') : PSet X fun o i v H Q => t o i v H Q ∨ t' o i v H Q := by
  intro pins s σ H o i v ov iv u Q I ro ri rv h
  rcases h with h | h
  · exact p pins s σ H o i v ov iv u Q I ro ri rv h
  · exact p' pins s σ H o i v ov iv u Q I ro ri rv h
theorem vSet_ok {g : Gh} {H : Hp} {h h' : Hv} {o i v : Val} {x y z : V} {Q : Hp → Prop} (R : HR X.K g H h) (ro : VR X.K g H o x) (ri : VR X.K g H i y) (rv : VR X.K g H v z) (e : vSet o i v h = some h') (q : ∀ H', Ext g H g H' → HR X.K g H' h' → Q H') : rSetL x y z H Q ∨ rSetD x y z H Q := by
  unfold vSet at e
  split at e
  · rename_i a
    simp only [VR] at ro
    obtain ⟨b, rfl, hm⟩ := ro
    split at e
    · rename_i l hl
      split at e
      · rename_i kk hk
        split at e
        · rename_i hz
          cases e
          obtain ⟨ks, e1, d⟩ := ref_at R hl hm
          obtain ⟨E, R1⟩ := R.write (ob := .dic (dPut l i v)) (o' := .dK (putK ks kk z)) hm fun E => ⟨_, upd_same, DR.put ⟨d.1, d.2.ext R E⟩ hk (rv.ext R E)⟩
          refine .inr ⟨b, _, rfl, ?_, q _ E R1⟩
          rw [key_V ri hk]
          exact DPut.k e1 (by rw [← d.length]; exact line_lt hz)
        · cases e
      · cases e
    · rename_i l hl
      split at e
      · rename_i k
        split at e
        · rename_i j hj
          cases e
          obtain ⟨xs, e1, rs⟩ := ref_at R hl hm
          obtain ⟨E, R1⟩ := R.write (ob := .lst (l.set j v)) (o' := .lst (xs.set j z)) hm fun E => ⟨_, upd_same, VRs.set j (rs.ext R E) (rv.ext R E)⟩
          simp only [VR] at ri
          subst ri
          exact .inl ⟨b, xs, k, j, rfl, rfl, e1, by rw [← rs.length]; exact hj, q _ E R1⟩
        · cases e
      · cases e
    · cases e
  · cases e
def Res.toT {α : Type} (r : Res α) (l : Loc) (k : α → Hv → TRes) : TRes := match r with
  | .ok v h => k v h
  | .exc e h => .exc e l h
  | .fail => .fail
@[simp] theorem Res.toT_ok {α : Type} (a : α) (h : Hv) (l : Loc) (k : α → Hv → TRes) : (Res.ok a h).toT l k = k a h := rfl
def gSub (o i : Den) : Tg := fun v l h => (o l h).toT l fun x h1 => (i l h1).toT l fun y h2 => match vSet x y v h2 with
  | some h3 => .ok l h3
  | none => .fail
theorem tG_T {α β : Type} {K : PySem.W.Frag} {W : WX} {σ : L2.St} {g : Gh} {H : Hp} {l : Loc} {h : Hv} {rel : Gh → Hp → α → β → Prop} {d : DenG α} {k : α → Hv → TRes} {Q : L2.St → Hp → Prop} {R : β → Hp → Prop} (S : SR K g H l σ) (hr : HR K g H h) (A : AfterT K W g H Q ((d l h).toT l k))
    (hk : ∀ v h1 g1 H1 x, Ext g H g1 H1 → SR K g1 H1 l σ → HR K g1 H1 h1 → rel g1 H1 v x → AfterT K W g1 H1 Q (k v h1) → R x H1) : tG K W rel d σ H R := by
  refine ⟨g, l, h, S, hr, ?_⟩
  cases e : d l h with
  | ok v h1 =>
    rw [e] at A
    intro g' H' x E R' r
    exact hk v h1 g' H' x E (S.ext hr E) R' r (AfterT.ext E A)
  | exc x h1 =>
    rw [e] at A
    intro g' H' c d' E R' r
    exact A g' H' σ c d' E R' (S.ext hr E) r
  | fail =>
    rw [e] at A
    exact A
theorem gg_sub {o i : Expr} {dx di : Den} {pos : Pos} (hu : X.A.units + 1 < cLine) (ho : GE X W o dx) (hi : GE X W i di)
    (ha : ∀ v, assign (.Subscript o i pos) X.env v = (do
      let ov ← holding [v] (eval o X.env)
      let iv ← holding [v, ov] (eval i X.env)
      standAt pos
      holding [v, ov, iv] (setItem ov iv v)
      release [v, ov, iv] []) := by intro _; rfl) : GG X W (.Subscript o i pos) (gSub dx di) := by
  refine PG.imp (pg_sub ho hi (PSet.or set_list (set_dict hu)) ha) fun y σ H Q ⟨g, l, h, v, S, R, r, A⟩ => ?_
  refine tG_T S R A fun x h1 g1 H1 x' E S1 R1 r1 A1 => ?_
  refine tG_T S1 R1 A1 fun z h2 g2 H2 z' E2 S2 R2 r2 A2 => ?_
  split at A2
  · rename_i h3 e
    exact vSet_ok R2 (r1.ext R1 E2) r2 ((r.ext R E).ext R1 E2) e fun H' E3 R3 => A2 g2 H' σ E3 R3 (S2.ext R2 E3)
  · exact A2.elim
/-- name op= e -/
def sAug (i : Nat) (f : Val → Val → Hv → Res Val) (d : Den) : Stm := fun l h => match l[i]? with
  | some (some x) => (d l h).to l fun y h1 => (f x y h1).to l fun z h2 => .nx (l.set i (some z)) h2
  | _ => .fail
theorem gs_aug (i : Nat) {f : Val → Val → Hv → Res Val} {x : Str} {e : Expr} {d : Den} {op : Operator} {pos' pos : Pos} (ho : OpG X (inplaceOp op) f) (he : GE X W e d) (hN : X.N.Nodup) (hi : X.N[i]? = some x := by rfl) (hx : L2.Loc X.env.scope x := by first | exact Or.inl rfl | exact Or.inr rfl)
    (hf : X.fn x = true ∨ X.env.scope.names.lookup x = some .local := by first | exact .inl rfl | exact .inr rfl) : GS X W (.AugAssign (.Name x pos') op e pos) (sAug i f d) := by
  obtain ⟨r, ho, hr⟩ := ho
  refine PS.imp (ps_aug hN hi hx he ho hf) fun D σ H ⟨g, l, h, S, R, A⟩ => ?_
  unfold sAug at A
  split at A
  · rename_i v ev
    obtain ⟨x, e1, rx⟩ := S.at_ i v ev
    refine ⟨x, e1, ?_⟩
    refine tG_to S R A fun y h1 g1 H1 y' E S1 R1 r1 A1 => ?_
    refine hr W g1 H1 h1 σ v y x y' _ R1 (rx.ext R E) r1 ?_
    cases ef : f v y h1 with
    | ok z h2 =>
      rw [ef] at A1
      exact fun g' H' z' E' R' rz => A1 g' H' _ E' R' ((S1.ext R1 E').set i rz)
    | exc x2 h2 =>
      rw [ef] at A1
      exact fun g' H' c d' E' R' re => A1 g' H' σ c d' E' R' (S1.ext R1 E') re
    | fail => rw [ef] at A1; exact A1
  · exact A.elim
def vIAdd (v u : Val) (h : Hv) : Res Val := match v, u with
  | .int i, .int j => .ok (.int (i + j)) h
  | .str a, .str b => if a.length + b.length ≤ lineN then .ok (.str (a ++ b)) h else .fail
  | _, _ => .fail
theorem og_iadd : OpG X (inplaceOp .Add) vIAdd := by
  refine ⟨_, iop_add.or iop_add_str, fun W g H h σ v u x y Q R rv ru A => ?_⟩
  unfold vIAdd at A
  split at A
  · simp only [VR] at rv ru
    subst rv ru
    exact .inl ⟨_, _, rfl, rfl, A g H _ Ext.refl R (by simp only [VR])⟩
  · split at A
    · rename_i hl
      simp only [VR] at rv ru
      subst rv ru
      exact .inr ⟨_, _, rfl, rfl, by rw [sOf_len, sOf_len]; exact line_ok hl, A g H _ Ext.refl R (by simp only [VR]; rw [sOf_append])⟩
    · exact A.elim
  · exact A.elim
theorem og_isub : OpG X (inplaceOp .Sub) vSub := og_int0 iop_sub fun W g H h σ v u Q R A => by
  unfold vSub at A
  split at A
  · exact ⟨_, _, rfl, rfl, A g H _ Ext.refl R (by simp only [VR])⟩
  · exact A.elim
end
end GH
set_option Elab.async false
set_option linter.all false
set_option maxRecDepth 100000
set_option maxHeartbeats 1000000
set_option autoImplicit false
/-! sorted of data, the first of them an empty tuple too; is of bools; dict displays; what stands at the top. -/
namespace PySem.W
open PySem PySem.Calls PySem.SeqAt PyProof.Rows
section
variable {prog : Program} {w : World} {A : Around} {E : Value → Shared → Prop} {s : Shared}
theorem gh_call_tuple_lt {Q : Value → Shared → Prop} {l b : Addr} {items items2 : Array Value} {e r : Nat → Bool} (hl : s.heap.IsTuple l items) (hb : s.heap.IsTuple b items2)
    (he : ∀ j (h1 : j < items.size) (h2 : j < items2.size), EqAt A.in1 s items[j] items2[j] (e j)) (hr : ∀ j (h1 : j < items.size) (h2 : j < items2.size), e j = false → RcLt A.in1 s items[j] items2[j] (r j))
    (h : Q (.bool (firstLt e r (decide (items.size < items2.size)) (List.range (min items.size items2.size)))) s) : wpAny (model prog w) A (call (.builtin "tuple.__lt__") [.ref l, .ref b]) Q E s := by
  obtain ⟨⟨cls, dd, data, sl⟩, ho, hc, n, hd⟩ := id hl
  obtain ⟨⟨cls2, dd2, data2, sl2⟩, ho2, hc2, n2, hd2⟩ := id hb
  simp only at hc hd hc2 hd2
  subst hc hd hc2 hd2
  exact call_meets F.slot_tuple_lt ⟨_, ho, rfl⟩ F.entry_tuple_lt (F.args_tuple_lt_2 _ _) (tuple_ltAt l b items items2 n n2 dd dd2 sl sl2 e r) ⟨ho, ho2, he, hr, h⟩
theorem gh_oneLt_tup {xs ys : List PyData} {a b : Value} {as bs : List Addr} {Q : Bool → Shared → Prop} (ra : Reads s.heap a (.tuple xs) as) (rb : Reads s.heap b (.tuple ys) bs) (hal : alikeAll xs ys = true)
    (hu : A.units + min (PyData.tuple xs).depth (PyData.tuple ys).depth < cLine) (hq : Q (dataLt (.tuple xs) (.tuple ys)) s) : wpAny (model prog w) A (oneLt' true a b) Q E s := by
  cases ra with
  | @tuple l o vs n _ as₁ h1 h2 h3 h4 =>
    cases rb with
    | @tuple l' o' vs' n' _ bs₁ k1 k2 k3 k4 =>
      have n1 : vs.size = xs.length := by simpa using ReadsAll.length _ _ _ h4
      have n2 : vs'.size = ys.length := by simpa using ReadsAll.length _ _ _ k4
      rw [dataLt_tuple, ← firstLt_toks xs ys hal, ← n1, ← n2] at hq
      rw [oneLt'_eq]
      simp only [if_true]
      refine wpAny_bind (wpAny_cRoomFor (room_here hu) ?_)
      refine wpAny_bind (wpAny_callSpecialIfBound?_slot (T := "tuple") ⟨_, h1, h2⟩ F.slot_tuple_lt (gh_call_tuple_lt (e := pairEq xs ys) (r := fun j => dataLt (xs.getD j .none) (ys.getD j .none)) ⟨_, h1, h2, _, h3⟩ ⟨_, k1, k2, _, k3⟩ (fun j j1 j2 => ?_) (fun j j1 j2 hj => ?_) ?_))
      · have := eqAt_alikeAll xs ys A.in1 s vs.toList vs'.toList _ _ h4 k4 hal (room_in hu) j (by simpa using j1) (by simpa using j2)
        simpa using this
      · have := rcLt_alikeAll xs ys A.in1 s vs.toList vs'.toList _ _ h4 k4 hal (room_in hu) j (by simpa using j1) (by simpa using j2) hj
        simpa using this
      · exact wpAny_truthy_bool hq
theorem gh_kind {M : Model} {vs : List Value} {Q : SortKind → Shared → Prop} {a : Addr} {o : Obj} {n : Nat} {rest : List Value} (ev : vs = .ref a :: rest) (ho : s.heap.get? a = some o) (hc : o.cls = .type "tuple") (hd : o.data = .seq #[] n)
    (hT : ∀ v ∈ vs, ∃ b o xs n, v = .ref b ∧ s.heap.get? b = some o ∧ o.cls = .type "tuple" ∧ o.data = .seq xs n) (hL : ∀ v ∈ vs, Looks M s.heap (typeOf v) (.type "tuple")) (h : Q oneType' s) :
    wpAny M A (keyKind' vs.toArray) Q E s := by
  rw [keyKind'_eq, List.mapM_toArray, map_eq_pure_bind]
  have first : ∀ (v : Value) (b : Addr) (o : Obj) (xs : Array Value) (n : Nat) (Q' : Option Value → Shared → Prop), v = .ref b → s.heap.get? b = some o → o.cls = .type "tuple" → o.data = .seq xs n → Q' xs[0]? s → wpAny M A (firstOfTuple' v) Q' E s := by
    intro v b o xs n Q' e1 e2 e3 e4 q
    subst e1
    rw [kas_first_eq]
    have : Looks M s.heap (typeOf (.ref b)) (.type "tuple") := e3 ▸ (Looks.ld e2).andThen .now
    refine wpAny_bind (this.here ?_)
    rw [if_neg (by simp)]
    exact wpAny_bind (listItems_at e2 e4 (wpAny_pure q))
  have all : ∀ (l : List Value) (Q' : List (Option Value) → Shared → Prop), (∀ v ∈ l, ∃ b o xs n, v = .ref b ∧ s.heap.get? b = some o ∧ o.cls = .type "tuple" ∧ o.data = .seq xs n) → (∀ fs : List (Option Value), fs.length = l.length → Q' fs s) → wpAny M A (l.mapM firstOfTuple') Q' E s := by
    intro l
    induction l with
    | nil => intro Q' _ q; rw [List.mapM_nil]; exact wpAny_pure (q [] rfl)
    | cons v l ih =>
      intro Q' hv q
      obtain ⟨b, o, xs, n, e1, e2, e3, e4⟩ := hv v (List.mem_cons_self ..)
      rw [List.mapM_cons]
      exact wpAny_bind (first v b o xs n _ e1 e2 e3 e4 (wpAny_bind (ih (fun bs s' => wpAny M A (pure (xs[0]? :: bs)) Q' E s') (fun v hv' => hv v (List.mem_cons_of_mem _ hv')) fun fs hl => wpAny_pure (q _ (by simp [hl])))))
  have go : ∀ fs : List (Option Value), fs.length = rest.length → wpAny M A (do
      if ((none :: fs : List (Option Value)).toArray.all (·.isSome)) = true then
        rule "list.sort.keys-are-tuples"
        return tuples' ((← oneTypeOnly' (((none :: fs : List (Option Value)).toArray.filterMap id))).any (· != .type "tuple"))
      if (((none :: fs : List (Option Value)).toArray)[0]?.bind id).isSome = true then return general'
      return if (← oneTypeOnly' vs.toArray).isSome = true then oneType' else general') Q E s := by
    intro fs hl
    rw [if_neg (by simp), if_neg (by simp)]
    rw [oneTypeOnly'_eq, List.mapM_toArray, map_eq_pure_bind]
    refine wpAny_bind (wpAny_bind (wpAny_bind (kas_mapM (r := Value.type "tuple") _ (fun v hv Q' hq => (hL v hv).here hq) (wpAny_pure ?_))))
    have hall : ((List.map (fun _ => Value.type "tuple") vs).toArray.all fun x => x == Value.type "tuple") = true := by
      simp only [List.all_toArray, List.all_map, List.all_eq_true]
      intro _ _
      exact beq_self_eq_true _
    have h0 : (List.map (fun _ => Value.type "tuple") vs).toArray[0]? = some (Value.type "tuple") := by rw [ev]; simp
    rw [h0]
    simp only [hall, if_true]
    exact wpAny_pure (wpAny_pure h)
  subst ev
  rw [List.mapM_cons]
  refine wpAny_bind (wpAny_bind (wpAny_bind (first _ a o #[] n _ rfl ho hc hd (wpAny_bind (all rest _ (fun v hv => hT v (List.mem_cons_of_mem _ hv)) fun fs hl => wpAny_pure ?_)))))
  exact wpAny_pure (go fs hl)
theorem GhSortsAt {vs : List Value} {ds : List PyData} (e : EachIs (fun v d => ∃ as, Reads s.heap v d as) vs ds) (hal : AllAlike ds) (hk : Sortable ds ∨ ∃ r, ds = .tuple [] :: r) (hu : ∀ d, d ∈ ds → A.units + d.depth < cLine) : SortsAt prog w A s (dataKind s.heap ds) vs := by
  rcases hk with hk | ⟨r, rfl⟩
  · exact SortsAt.data e hal hk hu
  have room : ∀ {d d' : PyData}, d ∈ PyData.tuple [] :: r → A.units + min d.depth d'.depth < cLine := fun {d d'} hd => Nat.lt_of_le_of_lt (Nat.add_le_add_left (Nat.min_le_left _ _) _) (hu d hd)
  have tup : ∀ d, d ∈ PyData.tuple [] :: r → ∃ xs, d = .tuple xs := by
    intro d hd
    have := hal d hd (.tuple []) (List.mem_cons_self ..)
    cases d with
    | tuple xs => exact ⟨xs, rfl⟩
    | _ => simp [alike] at this
  refine ⟨fun v hv => ?_, oneType', ?_, fun h2 E Q hq => ?_⟩
  · obtain ⟨d, hd, as, r⟩ := e.left v hv
    exact ⟨_, dataKind_some hal hd r⟩
  · intro E x y a b Q ha hb hq
    obtain ⟨d, as, hd, ra, rfl⟩ := dataKind_inv ha
    obtain ⟨d', as', hd', rb, rfl⟩ := dataKind_inv hb
    rw [keyLt'_oneType]
    have hdd := hal d hd d' hd'
    have hroom := room (d' := d') hd
    obtain ⟨xs, rfl⟩ := tup d hd
    obtain ⟨ys, rfl⟩ := tup d' hd'
    exact gh_oneLt_tup ra rb (by simpa [alike] using hdd) hroom hq
  · have shape : ∀ v d, d ∈ PyData.tuple [] :: r → (∃ as, Reads s.heap v d as) → ∃ b o xs n ds', v = .ref b ∧ s.heap.get? b = some o ∧ o.cls = .type "tuple" ∧ o.data = .seq xs n ∧ d = .tuple ds' ∧ xs.size = ds'.length := by
      intro v d hd ⟨as, ra⟩
      obtain ⟨ys, rfl⟩ := tup d hd
      cases ra with
      | @tuple l o vs n _ as₁ h1 h2 h3 h4 => exact ⟨l, o, vs, n, ys, rfl, h1, h2, h3, rfl, by simpa using ReadsAll.length _ _ _ h4⟩
    have hT : ∀ v ∈ vs, ∃ b o xs n, v = .ref b ∧ s.heap.get? b = some o ∧ o.cls = .type "tuple" ∧ o.data = .seq xs n := by
      intro v hv
      obtain ⟨d, hd, as, ra⟩ := e.left v hv
      obtain ⟨b, o, xs, n, _, q1, q2, q3, q4, _⟩ := shape v d hd ⟨as, ra⟩
      exact ⟨b, o, xs, n, q1, q2, q3, q4⟩
    have hL : ∀ v ∈ vs, Looks (model prog w) s.heap (typeOf v) (.type "tuple") := by
      intro v hv
      obtain ⟨b, o, xs, n, q1, q2, q3, q4⟩ := hT v hv
      subst q1
      show Looks _ _ (typeOf (Value.ref _)) _
      exact q3 ▸ (Looks.ld q2).andThen .now
    cases e with
    | @cons v0 _ _ _ ra t =>
      obtain ⟨b, o, xs, n, ds', q1, q2, q3, q4, q5, q6⟩ := shape v0 _ (List.mem_cons_self ..) ra
      cases q5
      have : xs = #[] := Array.eq_empty_of_size_eq_zero q6
      subst this
      subst q1
      exact gh_kind rfl q2 q3 q4 hT hL hq
theorem gh_sorted_data {β : Type} {vs : List Value} {bs : List β} {enc : β → PyData} {R : Value → β → Prop} {l : Addr} {Q : Value → Shared → Prop} (hl : s.heap.IsList l vs.toArray) (e : EachIs R vs bs) (er : EachIs (fun v b => ∃ as, Reads s.heap v (enc b) as) vs bs) (hal : AllAlike (bs.map enc)) (hk : Sortable (bs.map enc) ∨ ∃ r, bs.map enc = .tuple [] :: r) (hL : bs.length ≤ sizeLine)
    (hu : ∀ b, b ∈ bs → A.units + 2 + (enc b).depth < cLine) (h : ∀ out, out.length = bs.length → EachIs R out (bs.mergeSort (dataLe false enc)) → Q (.ref (s.heap.objs.size + 1)) { s with heap := sortedAll s.heap vs (List.toArray out) }) :
    wpAny (model prog w) A (call (.builtin "sorted") [.ref l]) Q E s := by
  have er' : EachIs (fun v b => ∃ as, Reads (sortingHeap (copyHeap s.heap vs) (s.heap.objs.size + 1) vs) v (enc b) as) vs bs := er.mono fun _ _ ⟨as, r⟩ => ⟨as, PyProof.Rows.Reads.keeps (fun _ _ => sorting_copy_old) r⟩
  exact sorted_vals hl (GhSortsAt (s := { s with heap := sortingHeap (copyHeap s.heap vs) (s.heap.objs.size + 1) vs }) (each_map (R := fun v d => ∃ as, Reads (sortingHeap (copyHeap s.heap vs) (s.heap.objs.size + 1) vs) v d as) enc er') hal hk (bound_map hu)) (by rw [e.length]; exact hL)
    (h _ (by rw [sortVals_length false rfl]; exact e.length) (sortVals_data false e er' hal))
end
end PySem.W
set_option Elab.async false
set_option linter.all false
set_option maxRecDepth 100000
set_option maxHeartbeats 1000000
set_option autoImplicit false
namespace GH
open PySem PySem.Spec PyProof.Rows L2
section
variable {K : PySem.W.Frag}
theorem OR.own {g g' : Gh} {H : Hp} {t : List Addr} (hm : g'.m = g.m ++ t) (ho : ∀ a, ¬ g.own a → ¬ g'.own a) {a : Addr} {o : Ob} (q : OR K g H a o) : OR K g' H a o := by
  cases o with
  | lst l => obtain ⟨xs, e, r⟩ := q; exact ⟨xs, e, r.own hm ho⟩
  | dic l => obtain ⟨xs, e, r⟩ := q; exact ⟨xs, e, r.1, r.2.own hm ho⟩
  | ins c f => obtain ⟨dx, gs, e, r⟩ := q; exact ⟨dx, gs, e, r.1, r.2.own hm ho⟩
theorem HR.aside {g : Gh} {H : Hp} {h : Hv} {D : Addr} {o : HO} (R1 : HR K g H h) (nD : H D = none) (mo : Mut (some o)) : ExtS g H ⟨g.m, D :: g.r⟩ (upd H D o) ∧ HR K ⟨g.m, D :: g.r⟩ (upd H D o) h := by
  have ES : ExtS g H ⟨g.m, D :: g.r⟩ (upd H D o) := ⟨⟨[], by simp, by simp⟩, ⟨[D], rfl, fun b hb => by rw [List.mem_singleton.mp hb]; exact nD⟩, fun b o e hb => by rw [upd_ne (ne_of_none e nD)]; exact e⟩
  refine ⟨ES, R1.len, R1.nd, fun a ha z => ?_, fun a ha => ?_, fun i o a e1 e2 => ?_⟩
  · rcases List.mem_cons.mp z with z | z
    · subst z; exact R1.fresh nD (.inl ha)
    · exact R1.dis a ha z
  · rcases List.mem_cons.mp ha with z | z
    · subst z; exact ⟨_, upd_same, mo⟩
    · obtain ⟨ob, e, mo⟩ := R1.al a z
      exact ⟨ob, by rw [upd_ne (ne_of_none e nD)]; exact e, mo⟩
  · have q := R1.obj i o a e1 e2
    cases o with
    | lst l => obtain ⟨xs, e, r⟩ := q; exact ⟨xs, by rw [upd_ne (ne_of_none e nD)]; exact e, r.extS R1 ES⟩
    | dic l => obtain ⟨xs, e, r⟩ := q; exact ⟨xs, by rw [upd_ne (ne_of_none e nD)]; exact e, r.1, r.2.extS R1 ES⟩
    | ins c f => obtain ⟨dx, gs, e, r⟩ := q; exact ⟨dx, gs, by rw [upd_ne (ne_of_none e nD)]; exact e, r.1, r.2.extS R1 ES⟩
theorem promote {W : WX} {σ : L2.St} {g1 g2 : Gh} {H1 H : Hp} {h h1 : Hv} {Q : VK} {D : Addr} {o0 o1 : HO} {ob : Ob} (R1 : HR K g1 H1 h1) (nD : H1 D = none) (E : Ext ⟨g1.m, D :: g1.r⟩ (upd H1 D o0) g2 H) (R : HR K g2 H h) (m1 : Mut (some o1))
    (hob : ∀ {g3 : Gh} {t : List Addr}, g3.m = g2.m ++ t → (∀ a, ¬ g2.own a → ¬ g3.own a) → OR K g3 (upd H D o1) D ob) (A : After K W (vr K) σ g1 H1 Q (.ok (.ref h.length) (h ++ [ob]))) : Q (.ref D) (upd H D o1) := by
  have hD : D ∈ g2.r := by rw [E.r]; exact List.mem_cons_self ..
  have er : g2.r = D :: g1.r := E.r
  have hr : ∀ b ∈ g1.r, b ∈ g2.r := fun b hb => by rw [er]; exact List.mem_cons_of_mem _ hb
  have nm : D ∉ g2.m := fun z => R.dis D z hD
  have nr : D ∉ g1.r := fun z => by obtain ⟨o, e⟩ := R1.own_there (.inr z); rw [nD] at e; cases e
  obtain ⟨ods, e0, m0⟩ := R.al D hD
  have R := R.reset (zs := o1) hD e0 m0 m1
  obtain ⟨t, em, n⟩ := E.m
  have em : g2.m = g1.m ++ t := em
  have E' : Ext g1 H1 ⟨g2.m ++ [D], g1.r⟩ (upd H D o1) := ⟨⟨t ++ [D], by show g2.m ++ [D] = _; rw [em, List.append_assoc], fun b hb => by
    rcases List.mem_append.mp hb with hb | hb
    · have q := n b hb
      have hne : b ≠ D := by rintro rfl; rw [upd_same] at q; cases q
      rw [upd_ne hne] at q
      exact q
    · rw [List.mem_singleton.mp hb]; exact nD⟩, rfl, fun b o e hb => by
      have hne := ne_of_none e nD
      rw [upd_ne hne]
      exact E.keep b o (by rw [upd_ne hne]; exact e) hb, fun b o e => by
      have hne := ne_of_none e nD
      rw [upd_ne hne]
      exact E.there b o (by rw [upd_ne hne]; exact e)⟩
  have hm : (Gh.mk (g2.m ++ [D]) g1.r).m = g2.m ++ [D] := rfl
  have ho : ∀ a, ¬ g2.own a → ¬ (Gh.mk (g2.m ++ [D]) g1.r).own a := fun a ha z => by
    rcases z with z | z
    · rcases List.mem_append.mp z with z | z
      · exact ha (.inl z)
      · exact ha (.inr (by rw [List.mem_singleton.mp z]; exact hD))
    · exact ha (.inr (hr a z))
  refine A ⟨g2.m ++ [D], g1.r⟩ (upd H D o1) (.ref D) E' ⟨by simp [R.len], ?_, fun a ha => ?_, fun a ha => R.al a (hr a ha), fun i o a e1 e2 => ?_⟩ ?_
  · show (g2.m ++ [D]).Nodup
    refine List.nodup_append.mpr ⟨R.nd, by simp, fun a ha b hb => ?_⟩
    rw [List.mem_singleton.mp hb]
    rintro rfl
    exact nm ha
  · have ha : a ∈ g2.m ++ [D] := ha
    rcases List.mem_append.mp ha with ha | ha
    · exact fun z => R.dis a ha (hr a z)
    · rw [List.mem_singleton.mp ha]; exact nr
  · have e2 : (g2.m ++ [D])[i]? = some a := e2
    by_cases hi : i < h.length
    · rw [List.getElem?_append_left hi] at e1
      rw [List.getElem?_append_left (by rw [R.len]; exact hi)] at e2
      exact (R.obj i o a e1 e2).own hm ho
    · have hi' : i = h.length := by
        have := (List.getElem?_eq_some_iff.mp e1).1
        simp at this
        omega
      subst hi'
      rw [List.getElem?_append_right (Nat.le_refl _)] at e1
      rw [List.getElem?_append_right (by rw [R.len]; exact Nat.le_refl _)] at e2
      simp at e1
      rw [R.len] at e2
      simp at e2
      subst e1 e2
      exact hob hm ho
  · simp only [VR]
    refine ⟨D, rfl, ?_⟩
    show (g2.m ++ [D])[h.length]? = some D
    rw [← R.len]
    simp

/-! ### dict displays -/
def dPairs : List (Den × Den) → Loc → Hv → Res (List (Val × Val))
  | [], _, h => .ok [] h
  | (a, b) :: r, l, h => match a l h with
    | .ok k h1 => (match b l h1 with
      | .ok v h2 => (match dPairs r l h2 with
        | .ok ps h3 => .ok ((k, v) :: ps) h3
        | _ => .fail)
      | _ => .fail)
    | _ => .fail
def dMk (ps : List (Val × Val)) : List (Val × Val) := ps.foldl (fun acc p => dPut acc p.1 p.2) []
def dDisp (ds : List (Den × Den)) : Den := fun l h => match dPairs ds l h with
  | .ok ps h1 => if (ps.all fun p => (keyOf p.1).isSome) = true ∧ ps.length ≤ 15 then .ok (.ref h1.length) (h1 ++ [.dic (dMk ps)]) else .fail
  | _ => .fail
abbrev tPP (K : PySem.W.Frag) (ds : List (Den × Den)) : List (TE × TE) := ds.map fun p => (tG K W0 (vr K) p.1, tG K W0 (vr K) p.2)
theorem pairs_of {l : Loc} {σ : L2.St} : ∀ {ds : List (Den × Den)} {g : Gh} {H : Hp} {h h' : Hv} {ps : List (Val × Val)} {Rq : List (V × V) → Hp → Prop}, SR K g H l σ → HR K g H h → dPairs ds l h = .ok ps h' →
    (∀ g' H' xs, Ext g H g' H' → HR K g' H' h' → VRs K g' H' (ps.map (·.1)) (xs.map (·.1)) → VRs K g' H' (ps.map (·.2)) (xs.map (·.2)) → Rq xs H') → tPairs (tPP K ds) σ H Rq
  | [], g, H, h, h', ps, Rq, S, R, e, c => by
    simp only [dPairs, Res.ok.injEq] at e
    obtain ⟨rfl, rfl⟩ := e
    exact c g H [] Ext.refl R VRs.nil VRs.nil
  | (a, b) :: r, g, H, h, h', ps, Rq, S, R, e, c => by
    simp only [dPairs] at e
    split at e
    · rename_i k h1 ea
      split at e
      · rename_i v h2 eb
        split at e
        · rename_i ps' h3 er
          simp only [Res.ok.injEq] at e
          obtain ⟨rfl, rfl⟩ := e
          refine ⟨g, l, h, S, R, ?_⟩
          dsimp only
          rw [ea]
          intro g1 H1 x E1 R1 rk
          have S1 := S.ext R E1
          refine ⟨g1, l, h1, S1, R1, ?_⟩
          show After K W0 (vr K) σ g1 H1 _ (b l h1)
          rw [eb]
          intro g2 H2 y E2 R2 rv
          refine pairs_of (S1.ext R1 E2) R2 er fun g3 H3 xs E3 R3 r1 r2 => ?_
          refine c g3 H3 ((x, y) :: xs) ((E1.trans E2).trans E3) R3 ?_ ?_
          · exact VRs.cons ((VR.ext R1 E2 rk).ext R2 E3) r1
          · exact VRs.cons (VR.ext R2 E3 rv) r2
        · cases e
      · cases e
    · cases e
def GPs (X : Cx) (pos : Pos) (keys : List (Option Expr)) (values : List Expr) (ds : List (Den × Den)) : Prop := PPs X pos keys values (tPP X.K ds)
section
variable {X : Cx} {W : WX}
theorem gps_nil {pos : Pos} : GPs X pos [] [] [] := pps_nil
theorem gps_cons {pos : Pos} {k v : Expr} {ks : List (Option Expr)} {vs : List Expr} {a b : Den} {ds : List (Den × Den)} (hk : GE X W0 k a) (hv : GE X W0 v b) (hr : GPs X pos ks vs ds) : GPs X pos (some k :: ks) (v :: vs) ((a, b) :: ds) := pps_cons hk hv hr
theorem merge_ok {g : Gh} {H : Hp} : ∀ {ps : List (Val × Val)} {kvs : List (Key × V)} {acc : List (Val × Val)} {ka : List (Key × V)}, DR K g H acc ka → ps.map (fun p => keyOf p.1) = kvs.map (fun q => some q.1) → VRs K g H (ps.map (·.2)) (kvs.map (·.2)) →
    DR K g H (ps.foldl (fun acc p => dPut acc p.1 p.2) acc) (mergeK ka kvs)
  | [], [], acc, ka, d, _, _ => d
  | [], _ :: _, _, _, _, e, _ => by cases e
  | _ :: _, [], _, _, _, e, _ => by cases e
  | p :: ps, q :: kvs, acc, ka, d, e, r => by
    simp only [List.map_cons, List.cons.injEq] at e
    simp only [List.map_cons, VRs] at r
    obtain ⟨x, xs, e1, r1, r2⟩ := r
    cases e1
    show DR K g H (ps.foldl (fun acc p => dPut acc p.1 p.2) (dPut acc p.1 p.2)) (mergeK (putK ka q.1 q.2) kvs)
    exact merge_ok (d.put e.1 r1) e.2 r2
theorem kvs_of {g : Gh} {H : Hp} : ∀ {ps : List (Val × Val)} {xs : List (V × V)}, (ps.all fun p => (keyOf p.1).isSome) = true → VRs K g H (ps.map (·.1)) (xs.map (·.1)) → VRs K g H (ps.map (·.2)) (xs.map (·.2)) →
    ∃ kvs : List (Key × V), xs = kvs.map (fun kv => (kV kv.1, kv.2)) ∧ ps.map (fun p => keyOf p.1) = kvs.map (fun q => some q.1) ∧ VRs K g H (ps.map (·.2)) (kvs.map (·.2)) ∧ kvs.length = ps.length
  | [], [], _, _, _ => ⟨[], rfl, rfl, VRs.nil, rfl⟩
  | [], _ :: _, _, r, _ => by simp [VRs] at r
  | _ :: _, [], _, r, _ => by simp [VRs] at r
  | p :: ps, x :: xs, a, r1, r2 => by
    simp only [List.all_cons, Bool.and_eq_true] at a
    simp only [List.map_cons, VRs] at r1 r2
    obtain ⟨y, ys, e1, q1, t1⟩ := r1
    cases e1
    obtain ⟨y, ys, e1, q2, t2⟩ := r2
    cases e1
    obtain ⟨kvs, e1, e2, e3, e4⟩ := kvs_of a.2 t1 t2
    obtain ⟨k, hk⟩ := Option.isSome_iff_exists.mp a.1
    refine ⟨(k, x.2) :: kvs, ?_, ?_, ?_, by simp [e4]⟩
    · rw [e1, List.map_cons, ← key_V q1 hk]
    · simp only [List.map_cons, hk, e2]
    · exact VRs.cons q2 e3
theorem ge_disp {keys : List (Option Expr)} {values : List Expr} {ds : List (Den × Den)} {pos : Pos} (hp : GPs X pos keys values ds) (hall : keys.all (·.isSome) = true := by rfl) (hl : keys.length = values.length := by rfl) (h0 : keys ≠ [] := by exact fun h => nomatch h)
    (h15 : keys.length ≤ 15 := by decide) : GE X W (.Dict keys values pos) (dDisp ds) := by
  refine PE.imp (pe_disp hp hall hl h0 h15) fun σ H Q ⟨g, l, h, S, R, A⟩ p np => ?_
  obtain ⟨ES, RD⟩ := R.aside (o := .dK []) np trivial
  unfold dDisp at A
  split at A
  · rename_i ps h1 ep
    split at A
    · rename_i hk
      refine pairs_of (S.extS R ES) RD ep fun g2 H2 xs E R2 r1 r2 => ?_
      obtain ⟨kvs, e1, e2, e3, e4⟩ := kvs_of hk.1 r1 r2
      have hD : p ∈ g2.r := by rw [E.r]; exact List.mem_cons_self ..
      have e0 : H2 p = some (.dK []) := E.keep p _ upd_same (fun z => R.fresh np (.inl z))
      refine ⟨e0, kvs, e1, by rw [e4]; exact hk.2, ?_⟩
      refine promote R np E R2 trivial (fun hm ho => ?_) A
      obtain ⟨ods, eq0, m0⟩ := R2.al p hD
      have d := merge_ok DR.nil e2 (e3.reset (zs := .dK (mergeK [] kvs)) hD eq0 m0)
      exact ⟨_, upd_same, d.1, d.2.own hm ho⟩
    · exact A.elim
  · exact A.elim

/-! ### {} -/
def dNewD : Den := fun _ h => .ok (.ref h.length) (h ++ [.dic []])
theorem ge_dnew {pos : Pos} : GE X W (.Dict [] [] pos) dNewD := PE.imp pe_dnewK fun σ H Q ⟨g, l, h, S, R, A⟩ p np => push_ok R A np fun E => ⟨[], upd_same, DR.nil⟩

/-! ### is of bools -/
def vIsB (v u : Val) (h : Hv) : Res Val := match v, u with
  | .bl a, .bl b => .ok (.bl (decide (a = b))) h
  | _, _ => .fail
def vNotB (v u : Val) (h : Hv) : Res Val := match v, u with
  | .bl a, .bl b => .ok (.bl (!decide (a = b))) h
  | _, _ => .fail
theorem og_isB : OpG X (compareOp .Is) vIsB := by
  refine ⟨_, op_isBl, fun W g H h σ v u x y Q R rv ru A => ?_⟩
  unfold vIsB at A
  split at A
  · simp only [VR] at rv ru
    exact ⟨_, _, rv, ru, A g H _ Ext.refl R (by simp only [VR])⟩
  · exact A.elim
theorem og_notB : OpG X (compareOp .IsNot) vNotB := by
  refine ⟨_, op_notBl, fun W g H h σ v u x y Q R rv ru A => ?_⟩
  unfold vNotB at A
  split at A
  · simp only [VR] at rv ru
    exact ⟨_, _, rv, ru, A g H _ Ext.refl R (by simp only [VR])⟩
  · exact A.elim

/-! ### never -/
def dFail : Den := fun _ _ => .fail
def sFail : Stm := fun _ _ => .fail
theorem ge_fail {e : Expr} : GE X W e dFail := ⟨fun _ _ _ _ _ _ ⟨_, _, _, _, _, A⟩ => A.elim⟩
theorem gs_fail {s : Stmt} : GS X W s sFail := ⟨fun _ _ _ _ _ _ ⟨_, _, _, _, _, A⟩ => A.elim⟩
theorem gss_fail {s : List Stmt} : GSs X W s sFail := ⟨fun _ _ _ _ _ _ ⟨_, _, _, _, _, A⟩ => A.elim⟩

/-! ### what stands at the top -/
theorem ge_top {x : Str} {v : Val} {y : V} {u : Value} {pos : Pos} (hm : X.mg x = some u) (r : RelV y u) (rv : ∀ g H, VR X.K g H v y) (hg : Gl X x := by rfl) (hd : (x == ("__debug__" : Str)) = false := by decide +kernel) : GE X W (.Name x pos) (dC v) := ge_c (pe_glob hg hm r hd) rv
/-- a table at the top: texts to texts -/
def dTab (t : List (List Nat × Val)) (d : Den) : Den := fun l h => (d l h).bind fun v h1 => match v with
  | .str s => (match t.lookup s with
    | some w => .ok w h1
    | none => .fail)
  | _ => .fail
theorem ix_tab {d : Addr} {es : Array DictEntry} {n : Nat} (D : KDict X.K X.w d es n) : IxR X (fun x y H Q => ∃ (z : Str) (u0 : Value) (v0 : V), x = .ref d ∧ y = .str z ∧ PySem.W.nsIn X.K d z = some (some u0) ∧ RelV v0 u0 ∧ Q v0 H) := by
  intro value slice pins s σ H x y v u Q I rx ry h hs
  obtain ⟨z, u0, v0, rfl, rfl, e, r, q⟩ := h
  have hv : v = Value.ref d := rx
  subst hv
  exact tail_any (kd_type D I) PySem.F.slot_dict_getitem.lookup (op_item_kd D pins s σ H (.ref d) (.str z) (.ref d) u Q I rfl ry ⟨z, u0, v0, rfl, rfl, e, r, q⟩) hs
theorem ge_tab (t : List (List Nat × Val)) {d : Addr} {es : Array DictEntry} {n : Nat} {x : Str} {b : Expr} {db : Den} {p pos : Pos} (D : KDict X.K X.w d es n) (hm : X.mg x = some (.ref d)) (ht : ∀ q ∈ t, ∃ u y, PySem.W.nsIn X.K d (sOf q.1) = some (some u) ∧ RelV y u ∧ ∀ g H, VR X.K g H q.2 y)
    (hb : GE X W b db) (hg : Gl X x := by rfl) (hd : (x == ("__debug__" : Str)) = false := by decide +kernel) (hs : PlainIx b := by exact fun _ _ => rfl) : GE X W (.Subscript (.Name x p) b pos) (dTab t db) := by
  refine PE.imp (pe_ix (ix_tab D) (pe_glob (v := .ref d) hg hm rfl hd) hb hs) fun σ H Q ⟨g, l, h, S, R, A⟩ => ?_
  refine tG_of S R A fun v h1 g1 H1 x E S1 R1 r1 A1 => ?_
  split at A1
  · rename_i s
    split at A1
    · rename_i w e
      have hm : ∃ q ∈ t, q = (s, w) := by
        have gen : ∀ tb : List (List Nat × Val), tb.lookup s = some w → (s, w) ∈ tb := by
          intro tb
          induction tb with
          | nil => intro z; cases z
          | cons p tb ih =>
            intro z
            rw [List.lookup_cons] at z
            split at z
            · rename_i q
              cases z
              rw [show s = p.1 by simpa using q]
              exact List.mem_cons_self ..
            · exact List.mem_cons_of_mem _ (ih z)
        exact ⟨_, gen t e, rfl⟩
      obtain ⟨q, hq, rfl⟩ := hm
      obtain ⟨u, y, e1, e2, e3⟩ := ht _ hq
      simp only [VR] at r1
      subst r1
      exact ⟨_, u, y, rfl, rfl, e1, e2, A1 g1 H1 y Ext.refl R1 (e3 g1 H1)⟩
    · exact A1.elim
  · exact A1.elim

/-! ### sorted -/
def isNE : Val → Bool
  | .tup (_ :: _) => true
  | _ => false
def isPlainK : Val → Bool
  | .bl _ | .int _ | .str _ => true
  | _ => false
def sortOk (l : List Val) : Bool := okVs l && (l.all fun a => l.all fun b => PySem.W.alike (pd a) (pd b)) && (l.all isNE || l.all isPlainK || (match l with
  | .tup [] :: _ => true
  | _ => false)) && decide (dpVs l ≤ 190)
noncomputable def sortV (l : List Val) : List Val := l.mergeSort (PySem.W.dataLe false pd)
noncomputable def vSorted (v : Val) (h : Hv) : Res Val := match lstOf h v with
  | some l => if sortOk l = true then .ok (.lst (sortV l)) h else .fail
  | none => .fail
noncomputable def vSortedM (v : Val) (h : Hv) : Res Val := match lstOf h v with
  | some l => if sortOk l = true then .ok (.ref h.length) (h ++ [.lst (sortV l)]) else .fail
  | none => .fail
def rSortG (K : PySem.W.Frag) : List V → Hp → VK → Prop := fun vs H Q => ∃ (g : Gh) (a : Addr) (xs : List V) (bs : List Val), vs = [.ref a] ∧ SqL K H a xs ∧ VRs K g H bs xs ∧ sortOk bs = true ∧ ∀ ys p, VRs K g H (sortV bs) ys → H p = none → Q (.ref p) (upd H p (.lst ys))
theorem each_VR {g : Gh} {H : Hp} : ∀ {bs : List Val} {xs : List V} {us : List Value}, VRs K g H bs xs → Vals xs us → PySem.W.EachIs (fun u b => ∃ x, RelV x u ∧ VR K g H b x) us bs
  | [], xs, us, r, q => by
    simp only [VRs] at r
    subst r
    cases q
    exact .nil
  | b :: bs, xs, us, r, q => by
    simp only [VRs] at r
    obtain ⟨x, ys, rfl, r1, r2⟩ := r
    cases q with
    | cons q1 q2 => exact .cons ⟨x, q1, r1⟩ (each_VR r2 q2)
theorem VRs_each {g : Gh} {H : Hp} : ∀ {bs : List Val} {us : List Value}, PySem.W.EachIs (fun u b => ∃ x, RelV x u ∧ VR K g H b x) us bs → ∃ xs, VRs K g H bs xs ∧ Vals xs us
  | _, _, .nil => ⟨[], VRs.nil, .nil⟩
  | _, _, .cons ⟨x, q1, r1⟩ t => by
    obtain ⟨xs, r2, q2⟩ := VRs_each t
    exact ⟨x :: xs, VRs.cons r1 r2, .cons q1 q2⟩
theorem okVs_mem : ∀ {l : List Val} {v : Val}, okVs l = true → v ∈ l → okV v = true
  | w :: l, v, o, m => by
    simp only [okVs, Bool.and_eq_true] at o
    rcases List.mem_cons.mp m with rfl | m
    · exact o.1
    · exact okVs_mem o.2 m
theorem dpVs_mem : ∀ {l : List Val} {v : Val}, v ∈ l → dpV v ≤ dpVs l
  | w :: l, v, m => by
    simp only [dpVs]
    rcases List.mem_cons.mp m with rfl | m
    · omega
    · have := dpVs_mem m; omega
theorem cr_sortG (hu : X.A.units + 200 < cLine) : CallR X (.builtin "sorted") (rSortG X.K) := by
  intro pins s σ H vs us Q I r h
  obtain ⟨g, a, xs, bs, rfl, hs, rb, ok, q⟩ := h
  obtain ⟨its, rv, hl, hz⟩ := I.list hs
  rw [Vals.ref1 r]
  simp only [sortOk, Bool.and_eq_true, decide_eq_true_eq] at ok
  obtain ⟨⟨⟨o1, o2⟩, o3⟩, o4⟩ := ok
  have hlen : bs.length = its.length := by rw [rb.length, rv.length]
  refine PySem.W.gh_sorted_data (enc := pd) (bs := bs) hl.isList (each_VR rb rv) ?_ (fun d hd d' hd' => ?_) ?_ (by rw [rb.length]; exact hz) (fun b hb => ?_) fun out hlo eo => ?_
  · refine (PySem.W.each_mem (each_VR rb rv)).mono fun u b ⟨⟨x, q1, q2⟩, hb⟩ => ?_
    exact Dp.reads I _ _ _ (VR.dp (okVs_mem o1 hb) q2) q1
  · obtain ⟨b, hb, rfl⟩ := List.mem_map.mp hd
    obtain ⟨b', hb', rfl⟩ := List.mem_map.mp hd'
    exact List.all_eq_true.mp (List.all_eq_true.mp o2 b hb) b' hb'
  · simp only [Bool.or_eq_true] at o3
    rcases o3 with (o3 | o3) | o3
    · refine .inl (.inl fun d hd => ?_)
      obtain ⟨b, hb, rfl⟩ := List.mem_map.mp hd
      have := List.all_eq_true.mp o3 b hb
      unfold isNE at this
      split at this
      · exact ⟨_, _, by simp only [pd, pds]; rfl⟩
      · cases this
    · refine .inl (.inr fun d hd => ?_)
      obtain ⟨b, hb, rfl⟩ := List.mem_map.mp hd
      have := List.all_eq_true.mp o3 b hb
      unfold isPlainK at this
      split at this
      · exact ⟨by simp [pd], fun xs => by simp [pd]⟩
      · exact ⟨by simp [pd], fun xs => by simp [pd]⟩
      · exact ⟨by simp [pd], fun xs => by simp [pd]⟩
      · cases this
    · split at o3
      · exact .inr ⟨_, by simp only [List.map_cons, pd, pds]; rfl⟩
      · cases o3
  · have h1 := dpVs_mem hb
    rw [pd_depth]
    omega
  · obtain ⟨ys, r1, r2⟩ := VRs_each eo
    obtain ⟨ep, he'⟩ := PyProof.Rows.sortedAll_at s.heap its out.toArray
    have hlen2 : ys.length ≤ sizeLine := by rw [r2.length, hlo, rb.length]; exact hz
    exact ⟨.ref _, upd H (s.heap.objs.size + 1) (.lst ys), I.laid (t' := s.toks) (fun _ _ => PyProof.Rows.sortedAll_old) (Nat.le_succ _) ⟨hlen2, out, ep, r2, he'⟩, rfl, q ys _ r1 (I.hok.fresh (Nat.le_succ _))⟩
theorem sorted_at {g : Gh} {H : Hp} {h : Hv} {v : Val} {x : V} {l : List Val} {Q : VK} (R : HR X.K g H h) (r : VR X.K g H v x) (hl : lstOf h v = some l) (ok : sortOk l = true) (c : ∀ ys p, VRs X.K g H (sortV l) ys → H p = none → Q (.ref p) (upd H p (.lst ys))) : rSortG X.K [x] H Q := by
  obtain ⟨a, xs, rfl, s, rs⟩ := lstOf_ok R r hl
  exact ⟨g, a, xs, l, rfl, SqL.of s, rs, ok, c⟩
theorem c1_sorted (hu : X.A.units + 200 < cLine) : C1 X (.builtin "sorted") vSorted := ⟨_, cr_sortG hu, fun W g H h σ v x Q R r A => by
  unfold vSorted at A
  split at A
  · rename_i l hl
    split at A
    · rename_i ok
      refine sorted_at R r hl ok fun ys p ry np => ?_
      obtain ⟨E4, R4⟩ := R.grow (o := .lst ys) np
      refine A g _ (.ref p) E4 R4 ?_
      simp only [VR]
      exact ⟨p, _, rfl, R.fresh np, upd_same, ry.ext R E4⟩
    · exact A.elim
  · exact A.elim⟩
theorem c1_sortedM (hu : X.A.units + 200 < cLine) : C1 X (.builtin "sorted") vSortedM := ⟨_, cr_sortG hu, fun W g H h σ v x Q R r A => by
  unfold vSortedM at A
  split at A
  · rename_i l hl
    split at A
    · rename_i ok
      exact sorted_at R r hl ok fun ys p ry np => push_ok R A np fun E => ⟨ys, upd_same, ry.ext R E⟩
    · exact A.elim
  · exact A.elim⟩
end
end
end GH
set_option Elab.async false
set_option linter.all false
set_option maxRecDepth 100000
set_option maxHeartbeats 1000000
set_option autoImplicit false
/-! All defs at once: levels; the law's end. -/
namespace GH
open PySem PySem.Spec PyProof.Rows L2
abbrev Gam := Nat → DF
section
variable {X : Cx} {W : WX}
theorem takes0 : Takes X W0 := fun u s' ⟨_, _, _, _, _, _, _, _, _, _, _, _, _, _, _, _, w⟩ => w.elim
/-- arguments, with their number -/
structure GAN (X : Cx) (W : WX) (es : List Expr) (n : Nat) (d : DenG (List Val)) : Prop where
  ga : GA X W es d
  len : ∀ l h vs h', d l h = .ok vs h' → vs.length = n
theorem gan_nil : GAN X W [] 0 dNil := ⟨ga_nil, fun l h vs h' e => by
  simp only [dNil, Res.ok.injEq] at e
  rw [← e.1]; rfl⟩
theorem gan_cons {e : Expr} {es : List Expr} {n : Nat} {d : Den} {r : DenG (List Val)} (ha : GE X W e d) (hr : GAN X W es n r) (hs : starEach (e :: es) X.env = (false, eval e X.env) :: starEach es X.env := by rfl) : GAN X W (e :: es) (n + 1) (dCons d r) := by
  refine ⟨ga_cons ha hr.ga hs, fun l h vs h' q => ?_⟩
  unfold dCons at q
  cases e1 : d l h with
  | exc x h1 => rw [e1] at q; cases q
  | fail => rw [e1] at q; cases q
  | ok v h1 =>
    rw [e1] at q
    simp only [Res.bind_ok] at q
    cases e2 : r l h1 with
    | exc x h2 => rw [e2] at q; cases q
    | fail => rw [e2] at q; cases q
    | ok ws h2 =>
      rw [e2] at q
      simp only [Res.bind_ok, Res.ok.injEq] at q
      rw [← q.1, List.length_cons, hr.len _ _ _ _ e2]
end
/-- a def of the top keeps D -/
structure FnK (P : Program) (w : World) (K : PySem.W.Frag) (mg : Str → Option Value) (base : Heap) (k : Nat) (D : DF) (x : Str) (ps : List Str) : Prop where
  ok : ∃ fd, FnOk P w K mg base (L2.CX P w) k (He.ga K x) fd ps (spG K D ps.length) ∧ Binds K fd ps []
  glo : mg x = some (.ref (He.ga K x))
  keep : PySem.W.keepIn K (.ref (He.ga K x)) = true
section
variable {X : Cx} {W : WX}
theorem ge_fn {D : DF} {k n : Nat} {ps : List Str} {x : Str} {p pos : Pos} {e : Expr} {es : List Expr} {da : DenG (List Val)} (F : FnK X.prog X.w X.K X.mg X.base k D x ps) (hr : Room k X.A) (tk : Takes X W) (ha : GAN X W (e :: es) n da)
    (hn : n = ps.length := by rfl) (hg : Gl X x := by rfl) (hdb : (x == ("__debug__" : Str)) = false := by decide +kernel)
    (he : starEach (e :: es) X.env = (false, eval e X.env) :: starEach es X.env := by rfl) (hpl : (backTo pos (starEach es X.env)).any (·.1) = false := by rfl) : GE X W (.Call (.Name x p) (e :: es) [] pos) (dCall D da) := by
  obtain ⟨fd, F1, b⟩ := F.ok
  exact ge_call F1 hr tk F.glo F.keep b ha.ga (fun l h vs h' q => (ha.len l h vs h' q).trans hn) hg hdb he hpl
end
/-- the defs' promises -/
def AllK (P : Program) (w : World) (K : PySem.W.Frag) (mg : Str → Option Value) (base : Heap) (sig : List (Str × List Str)) (k : Nat) (Γ : Gam) : Prop := ∀ (j : Nat) (x : Str) (ps : List Str), sig[j]? = some (x, ps) → FnK P w K mg base k (Γ j) x ps
def lev (D : Gam → Gam) : Nat → Gam
  | 0 => fun _ _ _ => .fail
  | k + 1 => D (lev D k)
theorem levels {P : Program} {w : World} {K : PySem.W.Frag} {mg : Str → Option Value} {base : Heap} {sig : List (Str × List Str)} {D : Gam → Gam}
    (h0 : ∀ (j : Nat) (x : Str) (ps : List Str), sig[j]? = some (x, ps) → mg x = some (.ref (He.ga K x)) ∧ PySem.W.keepIn K (.ref (He.ga K x)) = true ∧ ∃ fd, Binds K fd ps [])
    (step : ∀ k Γ, AllK P w K mg base sig k Γ → ∀ (j : Nat) (x : Str) (ps : List Str), sig[j]? = some (x, ps) → FnK P w K mg base (k + 1) (D Γ j) x ps) : ∀ k, AllK P w K mg base sig k (lev D k)
  | 0 => fun j x ps e => by
    obtain ⟨g, kp, fd, b⟩ := h0 j x ps e
    refine ⟨⟨fd, ⟨fun vs H Q E h => h.1, fun A outer s H args us vs Q E hr he hb hv hs => ?_⟩, b⟩, g, kp⟩
    obtain ⟨_, _, _, _, _, _, z⟩ := hs
    exact z.elim
  | k + 1 => step k _ (levels h0 step k)
/-- what a law that answers True keeps -/
theorem sp_law {K : PySem.W.Frag} {D : DF} {H : Hp} {a : Addr} {ns : List Int} (hO : Only H) (hs : SqL K H a (ns.map V.int)) (hD : ∃ h', D [.fz (ns.map .int)] [] = .ok (.bl true) h') : spG K D 1 [.ref a] H (fun v _ => v = .bl true) fun _ _ _ => False := by
  obtain ⟨h', e⟩ := hD
  refine ⟨rfl, ⟨[], []⟩, [], [.fz (ns.map .int)], ⟨rfl, List.nodup_nil, fun a ha => absurd ha (by simp), fun a ha => absurd ha (by simp), fun i o a e1 e2 => by simp at e1⟩, ?_, ?_⟩
  · have hint : ∀ ns : List Int, VRs K ⟨[], []⟩ H (ns.map .int) (ns.map V.int) := by
      intro ns
      induction ns with
      | nil => exact VRs.nil
      | cons n ns ih => exact VRs.cons (by simp only [VR]) ih
    refine VRs.one ?_
    simp only [VR]
    refine ⟨a, _, rfl, ?_, hint ns⟩
    rcases hs with (hs | ⟨o, hs⟩) | hs
    · rcases hO a with q | ⟨o, xs, q⟩ <;> rw [q] at hs <;> cases hs
    · exact .inl ⟨o, hs⟩
    · exact .inr hs
  · rw [e]
    intro g' H' x E R r
    simpa only [VR] using r
end GH
set_option Elab.async false
set_option linter.all false
set_option maxRecDepth 100000
set_option maxHeartbeats 1000000
namespace PySem
open Sem (wp)
open AutoSeq1 (wpAny_loadPart')
set_option maxHeartbeats 1000000 in
theorem gh_enumerate_newT (l : Addr) (items : Array Value) (n : Nat) (dct : Option Addr) (sl : Array (Option Value)) :
    Meets (Builtin.«enumerate.__new__» ⟨[.type "enumerate", .ref l], []⟩) (fun _ R s => s.heap.get? l = some { cls := .type "tuple", dict := dct, data := .seq items n, slots := sl } ∧
      R (.ok (.ret (.ref (s.heap.push { cls := .type "tuple_iterator", data := .fields #[.ref l, .int 0 0] }).objs.size)))
        { s with heap := (s.heap.push { cls := .type "tuple_iterator", data := .fields #[.ref l, .int 0 0] }).push { cls := .type "enumerate", data := .fields #[.none, .bool false, .ref s.heap.objs.size, rawInt 0, .none, .none] } }) :=
  .of_wp fun prog w A R s h => by
    obtain ⟨hp, g, d, tk, os⟩ := s; obtain ⟨hl, h⟩ := h
    have hsub := sub_enumerate
    have hL : Heap.IsTuple (Shared.heap ⟨hp, g, d, tk, os⟩) l items := ⟨_, hl, rfl, n, rfl⟩
    wp_walk using wpAny_loadPart' hl
    refine wpAny_stack_any fun st => wpAny_pure ?_
    split
    · rename_i c _ _ _ _ _
      cases (c == Value.type "enumerate")
      · wp_walk using wpAny_loadPart' hl, wpAny_pyIter_tuple hL
        exact ⟨_, rfl, h⟩
      · wp_walk using wpAny_loadPart' hl, wpAny_pyIter_tuple hL
        exact ⟨_, rfl, h⟩
    · wp_walk using wpAny_loadPart' hl, wpAny_pyIter_tuple hL
      exact ⟨_, rfl, h⟩
section
variable {prog : Program} {w : World} {A : Around} {E : Value → Shared → Prop} {s : Shared}
theorem gh_call_enumerate_tuple {l : Addr} {items : Array Value} {Q : Value → Shared → Prop} (hL : s.heap.IsTuple l items)
    (h : ∀ h', IsEnum h' (s.heap.objs.size + 1) s.heap.objs.size 0 .none → h'.IsTupleIter s.heap.objs.size l 0 → h'.objs.size = s.heap.objs.size + 2 →
      (∀ b o, s.heap.get? b = some o → h'.get? b = some o) → Q (.ref (s.heap.objs.size + 1)) { s with heap := h' }) :
    wpAny (model prog w) A (call (.type "enumerate") [.ref l]) Q E s := by
  obtain ⟨⟨c, dct, dt, sl⟩, hl, hc, n, hd⟩ := hL
  replace hc : c = .type "tuple" := hc
  replace hd : dt = .seq items n := hd
  subst hc hd
  refine callType_new F.called_enumerate (by decide) (F.typeCall_enumerate_1 _) (F.newCall_enumerate_1 _) (fun obj => F.args_object_init_2 obj _) F.entry_enumerate_new
    (gh_enumerate_newT l items n dct sl) ⟨hl, ?_⟩
  have hz : (s.heap.push { cls := .type "tuple_iterator", data := .fields #[.ref l, .int 0 0] }).objs.size = s.heap.objs.size + 1 := Heap.size_push ..
  show _ ∧ _
  rw [hz]
  have he : IsEnum ((s.heap.push { cls := .type "tuple_iterator", data := .fields #[.ref l, .int 0 0] }).push
      { cls := .type "enumerate", data := .fields #[.none, .bool false, .ref s.heap.objs.size, rawInt 0, .none, .none] }) (s.heap.objs.size + 1) s.heap.objs.size 0 .none := by
    have := Heap.get?_push_size (s.heap.push { cls := .type "tuple_iterator", data := .fields #[.ref l, .int 0 0] })
      (o := { cls := .type "enumerate", data := .fields #[.none, .bool false, .ref s.heap.objs.size, rawInt 0, .none, .none] }) rfl
    rw [hz] at this; exact this
  exact ⟨⟨_, he, rfl⟩, h _ he ⟨_, Heap.get?_push_of_some _ (Heap.get?_push_size _ rfl), rfl, rfl⟩ (by rw [Heap.size_push, hz]) fun b o x => Heap.get?_push_of_some _ (Heap.get?_push_of_some _ x)⟩
end
end PySem
namespace GH
open PySem PySem.Spec PyProof.Rows L2
/-- the tuple at a, each item in a new pair -/
def IteT (K : PySem.W.Frag) (a : Addr) : It :=
  ⟨fun i H => ∃ (xs : List V) (x : V), SqT K H a xs ∧ xs[i]? = some x, fun i H v H' => ∃ T x, v = .ref T ∧ H T = none ∧ H' = upd H T (.tup [.int (i : Nat), x]) ∧ ∀ xs, SqT K H a xs → xs[i]? = some x, fun i H => ∃ xs : List V, SqT K H a xs ∧ xs.length ≤ i⟩
theorem turn_enumT {P : Program} {w : World} {K : PySem.W.Frag} {elts : List Expr} {kk : Nat} {tpos : Pos} (a e it : Addr) :
    Turn P w K (.Tuple elts kk tpos) (IteT K a) [e, it] e (fun i h => (∃ old, IsEnum h e it ((i : Nat) : Int) old) ∧ h.IsTupleIter it a i ∧ e ≠ it) where
  mem := by simp
  obj := fun i h st b hb => by
    obtain ⟨⟨old, he⟩, ⟨o, ho, hc, hd⟩, _⟩ := st
    have e' : b = e ∨ b = it := by simpa using hb
    rcases e' with z | z
    · rw [z]; exact ⟨_, he, fun v q => nomatch q⟩
    · rw [z]; exact ⟨o, ho, fun v q => by rw [hd] at q; cases q⟩
  keep := fun i h h' st k => let ⟨⟨old, he⟩, hi, hne⟩ := st; ⟨⟨old, k e (by simp) _ he⟩, hi.at fun o q => k it (by simp) o q, hne⟩
  item := by
    intro X hP hw hK hc i pins s σ H E I hf st hg
    subst hP hw hK
    obtain ⟨⟨old, he⟩, hit, hne⟩ := st
    obtain ⟨xs, x, hq, hx⟩ := hg
    obtain ⟨its, rv, p, hz⟩ := I.tuple hq
    obtain ⟨u, hu, ru⟩ := rv.get hx
    have p : s.heap.IsTuple a its.toArray := p
    have hel : e < s.heap.objs.size := Heap.lt_size he
    have hil : it < s.heap.objs.size := by obtain ⟨_, q, _⟩ := hit; exact Heap.lt_size q
    have nai : a ≠ it := by
      rintro rfl
      obtain ⟨o, ho, hc, _⟩ := hit
      obtain ⟨o2, ho2, hc2, _⟩ := p
      rw [ho] at ho2
      cases ho2
      rw [hc] at hc2
      exact absurd hc2 (by decide)
    have nae : e ∉ [it, a] := by
      intro z
      have z : e = it ∨ e = a := by simpa using z
      rcases z with z | rfl
      · exact hne z
      · obtain ⟨o2, ho2, hc2, _⟩ := p
        rw [he] at ho2
        cases ho2
        have hc2 : Value.type "enumerate" = Value.type "tuple" := hc2
        exact absurd hc2 (by decide)
    have D := Draws.tuple (prog := X.prog) (w := X.w) (A := X.A.in1) (I.ok.hd hc) it a nai its.toArray
    refine wpAny_pyNext_enum_itemD D he ⟨hit, p⟩ (by
      have := (List.getElem?_eq_some_iff.mp hu).1
      simpa using this) hne nae fun u' h' tk hP' ho hst' hT hsz hk => ?_
    obtain rfl : u = u' := by
      have : its[i]? = some u' := by simpa using hP'
      rw [hu] at this
      exact Option.some.inj this
    refine ⟨_, rfl, wpAny_letOwnedTupleGo_enum (s := { s with heap := h', toks := tk + 1 }) ho fun h'' he' sb => ?_⟩
    have hT2 : h''.get? s.heap.objs.size = some { cls := .type "tuple", data := .seq #[.int i tk, u] } := (sb.2 _ (Nat.ne_of_gt hel)).trans hT
    have new : ObjOk X.prog X.w (upd H s.heap.objs.size (.tup [.int (i : Nat), x])) h'' s.heap.objs.size (.tup [.int (i : Nat), x]) :=
      ⟨by show 2 ≤ sizeLine; decide, [.int i tk, u], .cons ⟨_, rfl⟩ (.cons ru .nil), ⟨_, hT2, rfl, _, rfl⟩⟩
    have I1 : Inv X pins σ (upd H s.heap.objs.size (.tup [.int (i : Nat), x])) { s with heap := h'', toks := tk + 1 } :=
      I.turnedNew (ch := [e, it]) (fun b ob hb q => (sb.2 b (fun z => hb (by simp [z]))).trans (hk b ob (fun z => hb (by simp [z])) (fun z => hb (by simp [z])) q)) hf (Nat.le_refl _) new
    refine ⟨.ref s.heap.objs.size, _, I1, rfl, ⟨_, x, rfl, I.hok.fresh (Nat.le_refl _), rfl, fun ys hy => by rw [I.tuple_inj hy hq]; exact hx⟩, ⟨⟨u, ?_⟩, hst'.1.at fun o q => (sb.2 it (Ne.symm hne)).trans q, hne⟩, fun b hb => ?_⟩
    · have e1 : ((i + 1 : Nat) : Int) = (i : Int) + 1 := by omega
      rw [e1]; exact he'
    · have hb' : b < s.heap.objs.size := by
        have e' : b = e ∨ b = it := by simpa using hb
        rcases e' with z | z
        · rw [z]; exact hel
        · rw [z]; exact hil
      rw [upd_ne (Nat.ne_of_lt hb')]
      exact (hf b hb).1
  done := by
    intro X hP hw hK hc i pins s σ H E I hf st hg
    subst hP hw hK
    obtain ⟨⟨old, he⟩, hit, hne⟩ := st
    obtain ⟨xs, hq, hx⟩ := hg
    obtain ⟨its, rv, p, hz⟩ := I.tuple hq
    have p : s.heap.IsTuple a its.toArray := p
    obtain ⟨f0, f1, f2, f3, f4, f5⟩ := hf it (by simp)
    have hl := rv.length
    have hT : s.TypeIs (.ref e) "enumerate" := ⟨_, he, rfl⟩
    unfold pyNext
    refine wpAny_bind (wpAny_attempt (wpAny_callSpecial?_slot (name := Str.ofString "__next__") hT F.slot_enumerate_next
      (wpAny_call_entry F.slot_enumerate_next hT F.entry_enumerate_next ?_ (F.args_enumerate_next_1 _))))
    show wpAny _ _ (field (.ref e) 2 >>= _) _ _ _
    refine wpAny_bind (wpAny_field he rfl (x := .ref it) rfl ?_)
    refine wpAny_bind (wpAny_nextOf_tuple_end (A := X.A.in1) (I.ok.hd hc) hit p (by simp; omega) fun h' x eb hx' => ?_)
    obtain ⟨o, ho, hc⟩ := hx'
    refine wpAny_bind (wpAny_isInstance (T := "StopIteration") (b := true) ⟨o, ho, hc⟩ isSubtype_stop ?_)
    exact wpAny_pure ⟨rfl, I.turned (t' := s.toks) (fun b o hb q => eb b o hb q) f0 f1 f3 f4 f5⟩
  self := fun A i s Q E st h => let ⟨⟨_, he⟩, _⟩ := st; wpAny_pyIter_enum he h
section
def enumL (l : List Val) : List Val := l.mapIdx fun i v => .tup [.int (i : Nat), v]
def vEnum (v : Val) (h : Hv) : Res Src := match v with
  | .tup l => .ok (enumL l, none) h
  | .lst l => .ok (enumL l, none) h
  | .fz l => .ok (enumL l, none) h
  | _ => .fail
def iEnumG (d : Den) : DenG Src := fun l h => (d l h).bind vEnum
variable {K : PySem.W.Frag} {g0 g : Gh} {H0 H : Hp}
theorem serves_pairs {J : It} {xs : List V} {l : List Val} {G : Hp → Prop} {h : Hv} (R0 : HR K g0 H0 h) (w : Walk J xs.length G (YPair (fun i => some (.int (i : Nat))) (fun i => xs[i]?))) (hG : ∀ g H, ExtS g0 H0 g H → G H) (r : VRs K g0 H0 l xs) :
    Serves K J g0 H0 (enumL l, none) :=
  serves_of (n := xs.length) (by simp [enumL, r.length]) fun g H h E R _ => ⟨_, _, w, hG g H E, fun i x H' v hv y => by
    obtain ⟨T, x1, y1, rfl, nT, rfl, e1, e2⟩ := y
    unfold enumL at hv
    rw [List.getElem?_mapIdx] at hv
    cases ez : l[i]? with
    | none => rw [ez] at hv; cases hv
    | some p =>
      rw [ez] at hv
      simp at hv
      subst hv
      obtain ⟨a2, b2, c2⟩ := r.get ez
      have e1 : some (V.int (i : Nat)) = some x1 := e1
      have e2 : xs[i]? = some y1 := e2
      rw [e2] at b2; cases b2
      cases e1
      obtain ⟨E4, R4⟩ := R.grow (o := .tup [.int (i : Nat), y1]) nT
      refine ⟨E4, R4, ?_⟩
      simp only [VR]
      exact ⟨T, _, rfl, SqT.of upd_same, VRs.cons (by simp only [VR]) (.one ((c2.extS R0 E).ext R E4))⟩⟩
theorem walk_enumT {a : Addr} {xs : List V} : Walk (IteT K a) xs.length (fun H => SqT K H a xs) (YPair (fun i => some (.int (i : Nat))) (fun i => xs[i]?)) :=
  ⟨fun i _ hi q => ⟨xs, xs[i], q, by simp [hi]⟩, fun _ q => ⟨xs, q, Nat.le_refl _⟩, fun i H x H' _ q y => by
    obtain ⟨T, z, e1, e2, e3, e4⟩ := y
    exact ⟨T, _, z, e1, e2, e3, rfl, e4 xs q⟩⟩
variable {X : Cx} {W : WX}
theorem gi_enum {e : Expr} {d : Den} {p pos tpos : Pos} {elts : List Expr} {kk : Nat} (he : GE X W e d) (hm : X.mg "enumerate" = none) (hg : Gl X "enumerate" := by rfl) (hs : starEach [e] X.env = (false, eval e X.env) :: starEach [] X.env := by rfl) (hs1 : starEach [e] X.env = [(false, eval e X.env)] := by rfl) :
    GI X W (.Tuple elts kk tpos) (.Call (.Name "enumerate" p) [e] [] pos) (iEnumG d) := by
  refine ⟨fun pins s σ H R I ⟨g, l, h, S, Rh, A⟩ => ?_⟩
  have start : tCons (tG X.K W (vr X.K) d) tNil σ H fun vs H1 => ∃ x v h1 g1, vs = [x] ∧ HR X.K g1 H1 h1 ∧ VR X.K g1 H1 v x ∧ AfterI X.K W σ g1 H1 R (vEnum v h1) :=
    tG_I S Rh A fun v h1 g1 H1 x E S1 R1 r1 A1 => ⟨x, v, h1, g1, rfl, R1, r1, A1⟩
  refine Call_ (ld_blt I hg hm boot_enumerate (PyProof.Rows.callWith_type1 (thn ((pa_cons he pa_nil hs).run pos pins s σ H _ I start) fun us s1 ⟨vs, H1, I1, r1, q1⟩ => ?_) hs1 rfl))
  obtain ⟨x, v, h1, g1, rfl, R1, rv, A1⟩ := q1
  cases r1 with
  | cons r rr =>
    cases rr
    have fp : ∀ b ∈ [s1.heap.objs.size + 1, s1.heap.objs.size], FpOk X pins H1 b := fun b hb => by
      have e' : b = s1.heap.objs.size + 1 ∨ b = s1.heap.objs.size := by simpa using hb
      have hle : s1.heap.objs.size ≤ b := by
        rcases e' with z | z
        · rw [z]; exact Nat.le_add_right _ _
        · rw [z]; exact Nat.le_refl _
      exact I1.fpOk hle (I1.hok.fresh hle)
    cases v with
    | tup items =>
      simp only [VR] at rv
      obtain ⟨a, xs, rfl, hq, rs⟩ := rv
      cases r
      obtain ⟨its, rv, p', hz⟩ := I1.tuple hq
      refine PySem.gh_call_enumerate_tuple (show s1.heap.IsTuple a its.toArray from p') fun h' he hit hsz hk => wpAny_pyIter_enum he ?_
      have I2 : Inv X pins σ H1 { s1 with heap := h' } := I1.kept (t' := s1.toks) hk
      exact ⟨s1.heap.objs.size + 1, [s1.heap.objs.size + 1, s1.heap.objs.size], _, _, H1, rfl, I2, turn_enumT a (s1.heap.objs.size + 1) s1.heap.objs.size, ⟨⟨.none, he⟩, hit, Nat.succ_ne_self _⟩, fp,
        A1.2 g1 H1 _ Ext.refl R1 (by simp only [enumL, List.length_mapIdx, rs.length]; exact hz) (serves_pairs R1 walk_enumT (fun g H E => sqT_ext R1 E hq) rs)⟩
    | lst items =>
      simp only [VR] at rv
      obtain ⟨a, xs, rfl, na, hq, rs⟩ := rv
      cases r
      obtain ⟨its, rv, p', hz⟩ := I1.list (SqL.of hq)
      refine call_enumerate_list p'.isList fun h' he hit hsz hk => wpAny_pyIter_enum he ?_
      have I2 : Inv X pins σ H1 { s1 with heap := h' } := I1.kept (t' := s1.toks) hk
      exact ⟨s1.heap.objs.size + 1, [s1.heap.objs.size + 1, s1.heap.objs.size], _, _, H1, rfl, I2, turn_enum a (s1.heap.objs.size + 1) s1.heap.objs.size, ⟨⟨.none, he⟩, hit, Nat.succ_ne_self _⟩, fp,
        A1.2 g1 H1 _ Ext.refl R1 (by simp only [enumL, List.length_mapIdx, rs.length]; exact hz) (serves_pairs R1 walk_enum (fun g H E => sqL_ext R1 E na (SqL.of hq)) rs)⟩
    | fz items =>
      simp only [VR] at rv
      obtain ⟨a, xs, rfl, hq, rs⟩ := rv
      cases r
      obtain ⟨its, rv, p', hz⟩ := I1.list hq.sq
      refine call_enumerate_list p'.isList fun h' he hit hsz hk => wpAny_pyIter_enum he ?_
      have I2 : Inv X pins σ H1 { s1 with heap := h' } := I1.kept (t' := s1.toks) hk
      exact ⟨s1.heap.objs.size + 1, [s1.heap.objs.size + 1, s1.heap.objs.size], _, _, H1, rfl, I2, turn_enum a (s1.heap.objs.size + 1) s1.heap.objs.size, ⟨⟨.none, he⟩, hit, Nat.succ_ne_self _⟩, fp,
        A1.2 g1 H1 _ Ext.refl R1 (by simp only [enumL, List.length_mapIdx, rs.length]; exact hz) (serves_pairs R1 walk_enum (fun g H E => (hq.imp fun o s => E.keep _ _ s (R1.not_own s fun z => z)).sq) rs)⟩
    | _ => exact A1.elim
end
/-! ### a, b = x, y -/
section
variable {X : Cx} {W : WX}
def sPar (i j : Nat) (d : DenG (List Val)) : Stm := fun l h => (d l h).to l fun vs h1 => match vs with
  | [v, w] => .nx ((l.set i (some v)).set j (some w)) h1
  | _ => .fail
theorem gs_par (i j : Nat) {x y : Str} {a b : Expr} {d : DenG (List Val)} {px py pt pos : Pos} {kt k2 pt2} (hc : X.calm = true) (hN : X.N.Nodup) (ha : GA X W [a, b] d) (hi : X.N[i]? = some x := by rfl) (hj : X.N[j]? = some y := by rfl) (hij : i ≠ j := by decide)
    (hx : X.env.scope.names.lookup x = some .local := by rfl) (hy : X.env.scope.names.lookup y = some .local := by rfl)
    (hw : swappedStores [.Tuple [.Name x px, .Name y py] kt pt] (.Tuple [a, b] k2 pt2) X.env = pure (some [x, y]) := by rfl)
    (hs : swapsWithSole [.Tuple [.Name x px, .Name y py] kt pt] (.Tuple [a, b] k2 pt2) pos.line X.env = pure false := by rfl) :
    GS X W (.Assign [.Tuple [.Name x px, .Name y py] kt pt] (.Tuple [a, b] k2 pt2) pos) (sPar i j d) := by
  refine PS.imp (ps_par hc hN hi hj hij hx hy ha hw hs) fun D σ H ⟨g, l, h, S, R, A⟩ => ?_
  refine tG_to S R A fun vs h1 g1 H1 xs E S1 R1 r1 A1 => ?_
  split at A1
  · rename_i v w
    have r1 : VRs X.K g1 H1 [v, w] xs := r1
    simp only [VRs] at r1
    obtain ⟨x1, _, rfl, rx, x2, _, rfl, ry, rfl⟩ := r1
    exact ⟨x1, x2, rfl, A1 g1 H1 _ Ext.refl R1 ((S1.set i rx).set j ry)⟩
  · exact A1.elim
end
end GH
set_option Elab.async false
set_option linter.all false
set_option autoImplicit false
namespace GH
open PySem PySem.Spec PyProof.Rows L2
def CXA (P : Program) : CXT := fun outer H s E u s' => ∃ w, L2.CX P w outer H s E u s'
theorem cxa_none {P : Program} (H : Hp) (s : Shared) (e : Value) (s' : Shared) (h : CXA P [] H s (fun _ _ _ => False) e s') : False := by
  obtain ⟨w, h⟩ := h
  obtain ⟨_, _, _, _, _, _, _, _, _, _, _, _, z⟩ := h
  exact z
theorem fn_cxa {P : Program} {w : World} {K : PySem.W.Frag} {mg : Str → Option Value} {base : Heap} {k : Nat} {f : Addr} {fd : FuncData} {ps : List Str} {sp : Sp} (F : FnOk P w K mg base (L2.CX P w) k f fd ps sp) : FnOk P w K mg base (CXA P) k f fd ps sp :=
  ⟨F.len, fun A outer s H args us vs Q E hr he hb hv hs => PySem.codeAny_mono (F.run A outer s H args us vs Q E hr he hb hv hs) fun r s' c => by
    unfold CR at c ⊢
    split at c
    · exact c
    · exact c
    · exact ⟨w, c⟩⟩
theorem glo_of {K : PySem.W.Frag} {mg : Str → Option Value} {base : Heap} (X : K.In base) (G : base.Ns mainGlobals mg) {x : Str} (c : (He.Fa.glo x).ok K = true) : mg x = some (.ref (He.ga K x)) := He.glo_ok X G c
end GH
set_option Elab.async false
set_option linter.all false
set_option maxRecDepth 100000
set_option maxHeartbeats 1000000
set_option autoImplicit false
/-! Plain reasoning about the functions. -/
namespace GH
open PySem
/-! ### what holds behind -/
def ok {α : Type} (r : Res α) (P : α → Hv → Prop) : Prop := match r with
  | .ok v h => P v h
  | _ => False
@[simp] theorem ok_ok {α : Type} (v : α) (h : Hv) (P : α → Hv → Prop) : ok (.ok v h) P = P v h := rfl
@[simp] theorem ok_fail {α : Type} (P : α → Hv → Prop) : ok (.fail : Res α) P = False := rfl
@[simp] theorem ok_exc {α : Type} (e : Ex) (h : Hv) (P : α → Hv → Prop) : ok (.exc e h : Res α) P = False := rfl
@[simp] theorem ok_bind {α β : Type} (r : Res α) (k : α → Hv → Res β) (P : β → Hv → Prop) : ok (r.bind k) P = ok r fun v h => ok (k v h) P := by
  cases r <;> rfl
theorem ok_imp {α : Type} {r : Res α} {P Q : α → Hv → Prop} (h : ok r P) (i : ∀ v h, P v h → Q v h) : ok r Q := by
  cases r with
  | ok v h1 => exact i _ _ h
  | exc e h1 => exact h
  | fail => exact h
theorem ok_eq {α : Type} {r : Res α} {P : α → Hv → Prop} (h : ok r P) : ∃ v h', r = .ok v h' ∧ P v h' := by
  cases r with
  | ok v h1 => exact ⟨v, h1, rfl, h⟩
  | exc e h1 => exact h.elim
  | fail => exact h.elim
theorem ok_ite {α : Type} {c : Prop} [Decidable c] {a b : Res α} {P : α → Hv → Prop} : ok (if c then a else b) P ↔ (c → ok a P) ∧ (¬c → ok b P) := by
  by_cases h : c <;> simp [h]
structure Post where
  nx : Loc → Hv → Prop := fun _ _ => False
  rt : Val → Hv → Prop := fun _ _ => False
  bk : Loc → Hv → Prop := fun _ _ => False
  ct : Loc → Hv → Prop := fun _ _ => False
def sok (r : SRes) (P : Post) : Prop := match r with
  | .nx l h => P.nx l h
  | .rt v h => P.rt v h
  | .bk l h => P.bk l h
  | .ct l h => P.ct l h
  | _ => False
@[simp] theorem sok_nx (l : Loc) (h : Hv) (P : Post) : sok (.nx l h) P = P.nx l h := rfl
@[simp] theorem sok_rt (v : Val) (h : Hv) (P : Post) : sok (.rt v h) P = P.rt v h := rfl
@[simp] theorem sok_bk (l : Loc) (h : Hv) (P : Post) : sok (.bk l h) P = P.bk l h := rfl
@[simp] theorem sok_ct (l : Loc) (h : Hv) (P : Post) : sok (.ct l h) P = P.ct l h := rfl
@[simp] theorem sok_fail (P : Post) : sok .fail P = False := rfl
@[simp] theorem sok_exc (e : Ex) (l : Loc) (h : Hv) (P : Post) : sok (.exc e l h) P = False := rfl
@[simp] theorem sok_to {α : Type} (r : Res α) (l : Loc) (k : α → Hv → SRes) (P : Post) : sok (r.to l k) P = ok r fun v h => sok (k v h) P := by
  cases r <;> rfl
@[simp] theorem sok_then (r : SRes) (k : Stm) (P : Post) : sok (r.andThen k) P = sok r { P with nx := fun l h => sok (k l h) P } := by
  cases r <;> rfl
@[simp] theorem sok_turn (r : SRes) (k : Stm) (P : Post) : sok (r.turn k) P = sok r { P with nx := fun l h => sok (k l h) P, ct := fun l h => sok (k l h) P, bk := P.nx } := by
  cases r <;> rfl
theorem sok_ite {c : Prop} [Decidable c] {a b : SRes} {P : Post} : sok (if c then a else b) P ↔ (c → sok a P) ∧ (¬c → sok b P) := by
  by_cases h : c <;> simp [h]
theorem sok_imp {r : SRes} {P Q : Post} (h : sok r P) (n : ∀ l h, P.nx l h → Q.nx l h) (t : ∀ v h, P.rt v h → Q.rt v h) (b : ∀ l h, P.bk l h → Q.bk l h) (c : ∀ l h, P.ct l h → Q.ct l h) : sok r Q := by
  cases r with
  | nx l h1 => exact n _ _ h
  | rt v h1 => exact t _ _ h
  | bk l h1 => exact b _ _ h
  | ct l h1 => exact c _ _ h
  | exc e l h1 => exact h.elim
  | fail => exact h.elim
@[simp] theorem ok_run (n : Nat) (b : Stm) (args : List Val) (h : Hv) (P : Val → Hv → Prop) : ok (runDef n b args h) P = sok (b (args.map some ++ List.replicate (n - args.length) none) h) { nx := fun _ h => P .non h, rt := P } := by
  unfold runDef
  cases b (args.map some ++ List.replicate (n - args.length) none) h <;> rfl
def tok (r : TRes) (P : Loc → Hv → Prop) : Prop := match r with
  | .ok l h => P l h
  | _ => False
@[simp] theorem sok_s (r : TRes) (P : Post) : sok r.s P = tok r P.nx := by cases r <;> rfl
@[simp] theorem tok_ok (l : Loc) (h : Hv) (P : Loc → Hv → Prop) : tok (.ok l h) P = P l h := rfl
@[simp] theorem tok_fail (P : Loc → Hv → Prop) : tok .fail P = False := rfl
@[simp] theorem tok_toT {α : Type} (r : Res α) (l : Loc) (k : α → Hv → TRes) (P : Loc → Hv → Prop) : tok (r.toT l k) P = ok r fun v h => tok (k v h) P := by cases r <;> rfl
@[simp] theorem tok_bind (r : TRes) (k : Loc → Hv → TRes) (P : Loc → Hv → Prop) : tok (r.bind k) P = tok r fun l h => tok (k l h) P := by cases r <;> rfl

/-! ### the combinators, read at a state -/
section
variable (l : Loc) (h : Hv)
@[simp] theorem e_seq (a b : Stm) : sSeq a b l h = (a l h).andThen b := rfl
@[simp] theorem e_next : sNext l h = .nx l h := rfl
@[simp] theorem e_ret (d : Den) : sRet d l h = (d l h).to l .rt := rfl
@[simp] theorem e_retN : sRetN l h = .rt .non h := rfl
@[simp] theorem e_expr (d : Den) : sExpr d l h = (d l h).to l fun _ h1 => .nx l h1 := rfl
@[simp] theorem e_if (c : DenG Bool) (a b : Stm) : sIf c a b l h = (c l h).to l fun t h1 => if t then a l h1 else b l h1 := rfl
@[simp] theorem e_break : sBreak l h = .bk l h := rfl
@[simp] theorem e_cont : sCont l h = .ct l h := rfl
@[simp] theorem e_asg (d : Den) (t : Tg) : sAsg d t l h = (d l h).to l fun v h1 => (t v l h1).s := rfl
@[simp] theorem e_name (i : Nat) (v : Val) : gName i v l h = .ok (l.set i (some v)) h := rfl
@[simp] theorem e_for (di : DenG Src) (t : Tg) (b : Stm) : sFor di t b l h = (di l h).to l fun s h1 => forL t b s s.1 l h1 := rfl
@[simp] theorem e_c (v : Val) : dC v l h = .ok v h := rfl
@[simp] theorem e_nil : dNil l h = .ok [] h := rfl
@[simp] theorem e_cons (d : Den) (r : DenG (List Val)) : dCons d r l h = (d l h).bind fun v h1 => (r l h1).bind fun vs h2 => .ok (v :: vs) h2 := rfl
@[simp] theorem e_tup (r : DenG (List Val)) : dTup r l h = (r l h).bind mkTup := rfl
@[simp] theorem e_lst (r : DenG (List Val)) : dLst r l h = (r l h).bind mkLst := rfl
@[simp] theorem e_lstM (r : DenG (List Val)) : dLstM r l h = (r l h).bind mkRef := rfl
@[simp] theorem e_bin (f : Val → Val → Hv → Res Val) (a b : Den) : dBin f a b l h = (a l h).bind fun v h1 => (b l h1).bind fun u h2 => f v u h2 := rfl
@[simp] theorem e_b (d : Den) : dB d l h = resB (d l h) := rfl
@[simp] theorem e_and (a b : DenG Bool) : dAnd a b l h = (a l h).bind fun c h1 => if c then b l h1 else .ok false h1 := rfl
@[simp] theorem e_or (a b : DenG Bool) : dOr a b l h = (a l h).bind fun c h1 => if c then .ok true h1 else b l h1 := rfl
@[simp] theorem e_not (a : DenG Bool) : dNot a l h = (a l h).bind fun c h1 => .ok (!c) h1 := rfl
@[simp] theorem e_dif (c : DenG Bool) (a b : Den) : dIf c a b l h = (c l h).bind fun t h1 => if t then a l h1 else b l h1 := rfl
@[simp] theorem e_call (D : DF) (r : DenG (List Val)) : dCall D r l h = (r l h).bind fun vs h1 => D vs h1 := rfl
@[simp] theorem e_fn (f : Val → Hv → Res Val) (d : Den) : dFn f d l h = (d l h).bind f := rfl
@[simp] theorem e_len (d : Den) : dLen d l h = (d l h).bind vLen := rfl
@[simp] theorem e_tru (d : Den) : dTru d l h = (d l h).bind vTru := rfl
@[simp] theorem e_iseq (d : Den) : iSeq d l h = (d l h).bind vIter := rfl
@[simp] theorem e_rng1 (d : Den) : iRange1 d l h = (d l h).bind vRange1 := rfl
@[simp] theorem e_rng2 (a b : Den) : iRange2 a b l h = (a l h).bind fun v h1 => (b l h1).bind fun u h2 => vRange2 v u h2 := rfl
@[simp] theorem e_enum (d : Den) : iEnumG d l h = (d l h).bind vEnum := rfl
@[simp] theorem e_yes : dYes l h = .ok true h := rfl
@[simp] theorem e_cut (d : Den) (lo hi : DO) : dCut d lo hi l h = (d l h).bind fun v h1 => (lo l h1).bind fun a h2 => (hi l h2).bind fun b h3 => vCut v a b h3 := rfl
@[simp] theorem e_onone : oNone l h = .ok none h := rfl
@[simp] theorem e_newd : dNewD l h = .ok (.ref h.length) (h ++ [.dic []]) := rfl
@[simp] theorem e_meth1 (p : Hv → Val → Bool) (f : Val → Val → Hv → Res Val) (o e : Den) : dMeth1 p f o e l h = (o l h).bind fun x h1 => if p h1 x = true then (e l h1).bind fun v h2 => f x v h2 else .fail := rfl
@[simp] theorem e_meth0 (p : Hv → Val → Bool) (f : Val → Hv → Res Val) (o : Den) : dMeth0 p f o l h = (o l h).bind fun x h1 => if p h1 x = true then f x h1 else .fail := rfl
@[simp] theorem e_sub (o i : Den) (v : Val) : gSub o i v l h = (o l h).toT l fun x h1 => (i l h1).toT l fun y h2 => match vSet x y v h2 with
  | some h3 => .ok l h3
  | none => .fail := rfl
end
/-- one statement, what holds behind it, the rest -/
theorem sok_seq {a b : Stm} {l : Loc} {h : Hv} {P : Post} (R : Loc → Hv → Prop) (h1 : sok (a l h) { P with nx := R }) (h2 : ∀ l h, R l h → sok (b l h) P) : sok (sSeq a b l h) P := by
  rw [e_seq, sok_then]
  exact sok_imp h1 (fun l h r => h2 l h r) (fun _ _ z => z) (fun _ _ z => z) (fun _ _ z => z)
theorem ok_resB {r : Res Val} {P : Bool → Hv → Prop} (k : ok r fun v h => ∃ b, v = .bl b ∧ P b h) : ok (resB r) P := by
  cases r with
  | ok v h =>
    obtain ⟨b, rfl, p⟩ := k
    exact p
  | exc e h => exact k.elim
  | fail => exact k.elim
@[simp] theorem resB_bl (b : Bool) (h : Hv) : resB (.ok (.bl b) h) = .ok b h := rfl
@[simp] theorem vTru_bl (b : Bool) (h : Hv) : vTru (.bl b) h = .ok b h := rfl
@[simp] theorem ok_resB_eq {r : Res Val} {P : Bool → Hv → Prop} : ok (resB r) P = ok r fun v h => match v with
  | .bl b => P b h
  | _ => False := by
  cases r with
  | ok v h => cases v <;> rfl
  | exc e h => rfl
  | fail => rfl
/-- a loop over items, an invariant over what is left -/
theorem forL_inv {t : Tg} {b : Stm} {s : Src} {P : Post} (I : List Val → Loc → Hv → Prop)
    (step : ∀ x r l h, I (x :: r) l h → srcOk s h ∧ tok (t x l h) fun l1 h1 => sok (b l1 h1) { nx := fun l2 h2 => I r l2 h2, ct := fun l2 h2 => I r l2 h2, bk := P.nx, rt := P.rt })
    (done : ∀ l h, I [] l h → srcOk s h ∧ P.nx l h) : ∀ (items : List Val) (l : Loc) (h : Hv), I items l h → sok (forL t b s items l h) P
  | [], l, h, i => by
    obtain ⟨a, q⟩ := done l h i
    simp only [forL, if_pos a, sok_nx]
    exact q
  | x :: r, l, h, i => by
    obtain ⟨a, q⟩ := step x r l h i
    simp only [forL, if_pos a]
    cases e : t x l h with
    | ok l1 h1 =>
      rw [e] at q
      simp only [tok_ok] at q
      simp only [sok_turn]
      exact sok_imp q (fun l2 h2 i2 => forL_inv I step done r l2 h2 i2) (fun _ _ z => z) (fun _ _ z => z) (fun l2 h2 i2 => forL_inv I step done r l2 h2 i2)
    | exc x1 l1 h1 => rw [e] at q; exact q.elim
    | fail => rw [e] at q; exact q.elim
/-- a comprehension's items, an invariant -/
theorem lcL_inv {t : Tg} {c : DenG Bool} {e : Den} {s : Src} {P : List Val → Hv → Prop} (I : List Val → List Val → Hv → Prop) {l : Loc}
    (step : ∀ x r acc h, I (x :: r) acc h → srcOk s h ∧ tok (t x l h) fun l1 h1 => ok (c l1 h1) fun b h2 => if b then ok (e l1 h2) fun v h3 => I r (acc ++ [v]) h3 else I r acc h2)
    (done : ∀ acc h, I [] acc h → srcOk s h ∧ P acc h) : ∀ (items acc : List Val) (h : Hv), I items acc h → ok (lcL t c e s items acc l h) P
  | [], acc, h, i => by
    obtain ⟨a, q⟩ := done acc h i
    simp only [lcL, if_pos a, ok_ok]
    exact q
  | x :: r, acc, h, i => by
    obtain ⟨a, q⟩ := step x r acc h i
    simp only [lcL, if_pos a]
    cases et : t x l h with
    | ok l1 h1 =>
      rw [et] at q
      simp only [tok_ok] at q
      dsimp only
      cases ec : c l1 h1 with
      | ok b h2 =>
        rw [ec] at q
        simp only [ok_ok] at q
        dsimp only
        cases b with
        | true =>
          simp only [if_true] at q ⊢
          cases ee : e l1 h2 with
          | ok v h3 =>
            rw [ee] at q
            exact lcL_inv I step done r (acc ++ [v]) h3 q
          | exc x1 h3 => rw [ee] at q; exact q.elim
          | fail => rw [ee] at q; exact q.elim
        | false => exact lcL_inv I step done r acc h2 (by simpa using q)
      | exc x1 h2 => rw [ec] at q; exact q.elim
      | fail => rw [ec] at q; exact q.elim
    | exc x1 l1 h1 => rw [et] at q; exact q.elim
    | fail => rw [et] at q; exact q.elim
@[simp] theorem ok_dLc {fin : List Val → Hv → Res Val} {vs : List Nat} {di : DenG Src} {t : Tg} {c : DenG Bool} {e : Den} {l : Loc} {h : Hv} {P : Val → Hv → Prop} :
    ok (dLc fin vs di t c e l h) P = ok (di l h) fun s h1 => ok (lcL t c e s s.1 [] (wipeL l vs) h1) fun ys h2 => ok (fin ys h2) P := by
  simp only [dLc, ok_bind]
@[simp] theorem ok_frozen (ys : List Val) (h : Hv) (P : Val → Hv → Prop) : ok (frozen ys h) P = P (.lst ys) h := rfl
@[simp] theorem ok_ours (ys : List Val) (h : Hv) (P : Val → Hv → Prop) : ok (ours ys h) P = P (.ref h.length) (h ++ [.lst ys]) := rfl
/-- a comprehension that draws nothing: map and filter -/
theorem lc_pure {t : Tg} {c : DenG Bool} {e : Den} {s : Src} {l : Loc} {h : Hv} {P : List Val → Hv → Prop} (f : Val → Bool) (g : Val → Val) (hs : srcOk s h)
    (step : ∀ x ∈ s.1, tok (t x l h) fun l1 h1 => h1 = h ∧ c l1 h = .ok (f x) h ∧ (f x = true → e l1 h = .ok (g x) h)) (done : P ((s.1.filter f).map g) h) : ok (lcL t c e s s.1 [] l h) P := by
  have gen : ∀ (items acc : List Val), (∀ x ∈ items, x ∈ s.1) → ok (lcL t c e s items acc l h) fun ys h2 => h2 = h ∧ ys = acc ++ (items.filter f).map g := by
    intro items
    induction items with
    | nil => intro acc _; simp only [lcL, if_pos hs, ok_ok]; simp
    | cons x r ih =>
      intro acc hm
      have q := step x (hm x (List.mem_cons_self ..))
      simp only [lcL, if_pos hs]
      cases et : t x l h with
      | ok l1 h1 =>
        rw [et] at q
        obtain ⟨rfl, q1, q2⟩ := q
        dsimp only
        rw [q1]
        dsimp only
        cases ef : f x with
        | true =>
          simp only [if_true]
          rw [q2 ef]
          dsimp only
          refine ok_imp (ih (acc ++ [g x]) fun y hy => hm y (List.mem_cons_of_mem _ hy)) fun v h2 z => ⟨z.1, ?_⟩
          rw [z.2]; simp [ef]
        | false =>
          refine ok_imp (ih acc fun y hy => hm y (List.mem_cons_of_mem _ hy)) fun v h2 z => ⟨z.1, ?_⟩
          rw [z.2]; simp [ef]
      | exc x1 l1 h1 => rw [et] at q; exact q.elim
      | fail => rw [et] at q; exact q.elim
  refine ok_imp (gen s.1 [] fun x hx => hx) fun v h2 z => ?_
  obtain ⟨rfl, rfl⟩ := z
  simpa using done

/-! ### tidy -/
theorem frzs_self {f : Nat → Option Val} : ∀ {v : Val}, okV v = true → frz f v = some v := by
  intro v
  exact Val.rec (motive_1 := fun v => okV v = true → frz f v = some v) (motive_2 := fun l => okVs l = true → frzs f l = some l)
    (fun _ => rfl) (fun _ _ => rfl) (fun _ _ => rfl) (fun _ _ => rfl)
    (fun l ih o => by simp only [okV] at o; simp only [frz, ih o, Option.map_some])
    (fun l ih o => by simp only [okV] at o; simp only [frz, ih o, Option.map_some])
    (fun l ih o => by simp only [okV] at o; simp only [frz, ih o, Option.map_some])
    (fun i o => by cases o)
    (fun _ => rfl) (fun v l i1 i2 o => by
      simp only [okVs, Bool.and_eq_true] at o
      simp only [frzs, i1 o.1, i2 o.2, Option.bind_some, Option.map_some]) v
theorem frzs_list {f : Nat → Option Val} : ∀ {l : List Val}, okVs l = true → frzs f l = some l
  | [], _ => rfl
  | v :: l, o => by
    simp only [okVs, Bool.and_eq_true] at o
    simp only [frzs, frzs_self o.1, frzs_list o.2, Option.bind_some, Option.map_some]
theorem kept_app (h g : Hv) : kept h.length h (h ++ g) := ⟨by simp, fun i hi => .inl (List.getElem?_append_left hi)⟩
theorem tidy_app {r : Res Val} {h : Hv} {P : Val → Hv → Prop} (k : ok r fun v h' => (∃ g, h' = h ++ g) ∧ okV v = true ∧ P v h) : ok (tidy r h) P := by
  obtain ⟨v, h', rfl, ⟨g, rfl⟩, o, p⟩ := ok_eq k
  unfold tidy
  dsimp only
  rw [if_pos (kept_app h g), frzs_self o]
  simpa using p
theorem tidy_lst {r : Res Val} {h : Hv} {P : Val → Hv → Prop} (k : ok r fun v h' => ∃ g i l, h' = h ++ g ∧ v = .ref i ∧ h.length ≤ i ∧ h'[i]? = some (.lst l) ∧ okVs l = true ∧ P (.lst l) h) : ok (tidy r h) P := by
  obtain ⟨v, h', rfl, g, i, l, rfl, rfl, hi, hl, o, p⟩ := ok_eq k
  unfold tidy
  dsimp only
  rw [if_pos (kept_app h g)]
  have : frz (frzN (h ++ g) h.length (h ++ g).length) (.ref i) = some (.lst l) := by
    have hn : (h ++ g).length = ((h ++ g).length - 1) + 1 := by
      have := (List.getElem?_eq_some_iff.mp hl).1
      omega
    rw [hn]
    simp only [frz, frzN]
    rw [if_neg (by omega), hl]
    simp only [frzs_list o, Option.map_some]
  rw [this]
  simpa using p
end GH
set_option Elab.async false
set_option linter.all false
set_option maxRecDepth 100000
set_option maxHeartbeats 1000000
set_option autoImplicit false
/-! Values compared; the tape. -/
namespace GH
open PySem
theorem nrfl {α : Type} {a b : α} (h : a = b) : a = b := h
abbrev sv (s : List Nat) : Val := .str s
/-- a tuple of ints -/
abbrev pv (p : List Int) : Val := .tup (p.map .int)
theorem okVs_ints (p : List Int) : okVs (p.map .int) = true := by
  induction p with
  | nil => rfl
  | cons a p ih => simp only [List.map_cons, okVs, okV, ih, Bool.and_self]
theorem dpVs_ints (p : List Int) : dpVs (p.map .int) = 0 := by
  induction p with
  | nil => rfl
  | cons a p ih => simp only [List.map_cons, dpVs, dpV, ih]; rfl
@[simp] theorem okV_pv (p : List Int) : okV (pv p) = true := by simp only [okV, okVs_ints]
@[simp] theorem dpV_pv (p : List Int) : dpV (pv p) = 1 := by simp only [dpV, dpVs_ints]
theorem eqv_ints : ∀ p q : List Int, PyData.eqvAll (pds (p.map .int)) (pds (q.map .int)) = decide (p = q)
  | [], [] => rfl
  | [], _ :: _ => rfl
  | _ :: _, [] => rfl
  | a :: p, b :: q => by
    simp only [List.map_cons, pds, pd, PyData.eqvAll, PyData.eqv, eqv_ints p q]
    by_cases h1 : a = b <;> by_cases h2 : p = q <;> simp [h1, h2]
@[simp] theorem veq_pv (p q : List Int) : veq (pv p) (pv q) = decide (p = q) := by
  simp only [veq, pd, PyData.eqv, eqv_ints]
@[simp] theorem veq_str (a b : List Nat) : veq (.str a) (.str b) = decide (a = b) := by
  simp only [veq, pd, PyData.eqv]
  by_cases h : a = b
  · subst h; simp
  · have : sOf a ≠ sOf b := fun e => h (sOf_inj e)
    simp [h, this]
@[simp] theorem veq_int (a b : Int) : veq (.int a) (.int b) = decide (a = b) := by
  simp only [veq, pd, PyData.eqv]
  by_cases h : a = b <;> simp [h]
@[simp] theorem veq_bl (a b : Bool) : veq (.bl a) (.bl b) = decide (a = b) := by
  simp only [veq, pd, PyData.eqv]
  cases a <;> cases b <;> rfl
theorem okVs_pvs (s : List (List Int)) : okVs (s.map pv) = true := by
  induction s with
  | nil => rfl
  | cons a p ih => simp only [List.map_cons, okVs, okV_pv, ih, Bool.and_self]
theorem dpVs_pvs (s : List (List Int)) : dpVs (s.map pv) ≤ 1 := by
  induction s with
  | nil => exact Nat.zero_le _
  | cons a p ih => simp only [List.map_cons, dpVs, dpV_pv]; omega
/-- a tuple, a list of tuples of ints -/
abbrev tv (s : List (List Int)) : Val := .tup (s.map pv)
theorem okVs_append {a b : List Val} : okVs (a ++ b) = (okVs a && okVs b) := by
  induction a with
  | nil => simp [okVs]
  | cons x a ih => simp only [List.cons_append, okVs, ih, Bool.and_assoc]
@[simp] theorem okV_tv (s : List (List Int)) : okV (tv s) = true := by simp only [okV, okVs_pvs]
theorem inSeq_pv (p : List Int) (s : List (List Int)) : inSeq (pv p) (s.map pv) = decide (p ∈ s) := by
  unfold inSeq
  induction s with
  | nil => rfl
  | cons a s ih =>
    simp only [List.map_cons, List.any_cons, ih, veq_pv]
    by_cases h1 : a = p <;> by_cases h2 : p ∈ s <;> simp [h1, h2, eq_comm]
    intro e; exact absurd e.symm h1
theorem inOk_pv (p : List Int) (s : List (List Int)) : inOk (pv p) (s.map pv) = true := by
  have := dpVs_pvs s
  simp only [inOk, okV_pv, okVs_pvs, Bool.and_self, Bool.true_and, decide_eq_true_eq]
  omega
@[simp] theorem vIn_pv (p : List Int) (s : List (List Int)) (h : Hv) : vIn (pv p) (tv s) h = .ok (.bl (decide (p ∈ s))) h := by
  simp only [vIn, isIn, seqOf, thaw, inOk_pv, if_true, inSeq_pv, Res.bind_ok]
@[simp] theorem vNotIn_pv (p : List Int) (s : List (List Int)) (h : Hv) : vNotIn (pv p) (tv s) h = .ok (.bl (!decide (p ∈ s))) h := by
  simp only [vNotIn, isIn, seqOf, thaw, inOk_pv, if_true, inSeq_pv, Res.bind_ok]
@[simp] theorem vEq_pv (p q : List Int) (h : Hv) : vEq (pv p) (pv q) h = .ok (.bl (decide (p = q))) h := by
  simp [vEq, thaw, eqOk]
@[simp] theorem vEq_str (a b : List Nat) (h : Hv) : vEq (.str a) (.str b) h = .ok (.bl (decide (a = b))) h := nrfl rfl
@[simp] theorem vEq_int (a b : Int) (h : Hv) : vEq (.int a) (.int b) h = .ok (.bl (decide (a = b))) h := nrfl rfl
@[simp] theorem vEq_bl (a b : Bool) (h : Hv) : vEq (.bl a) (.bl b) h = .ok (.bl (decide (a = b))) h := by
  simp [vEq, thaw, eqOk, okV, dpV]
@[simp] theorem vAdd_int (a b : Int) (h : Hv) : vAdd (.int a) (.int b) h = .ok (.int (a + b)) h := nrfl rfl
@[simp] theorem vSub_int (a b : Int) (h : Hv) : vSub (.int a) (.int b) h = .ok (.int (a - b)) h := nrfl rfl
@[simp] theorem vLt_int (a b : Int) (h : Hv) : vLt (.int a) (.int b) h = .ok (.bl (decide (a < b))) h := nrfl rfl
@[simp] theorem vGt_int (a b : Int) (h : Hv) : vGt (.int a) (.int b) h = .ok (.bl (decide (b < a))) h := nrfl rfl
@[simp] theorem vLe_int (a b : Int) (h : Hv) : vLe (.int a) (.int b) h = .ok (.bl (decide (a ≤ b))) h := nrfl rfl
@[simp] theorem vGe_int (a b : Int) (h : Hv) : vGe (.int a) (.int b) h = .ok (.bl (decide (b ≤ a))) h := nrfl rfl
@[simp] theorem vInt_int (a : Int) (h : Hv) : vInt (.int a) h = .ok (.int a) h := nrfl rfl
@[simp] theorem vAbs_int (a : Int) (h : Hv) : vAbs (.int a) h = .ok (.int (if a < 0 then -a else a)) h := nrfl rfl
@[simp] theorem vLen_tup (l : List Val) (h : Hv) : vLen (.tup l) h = .ok (.int l.length) h := nrfl rfl
@[simp] theorem vLen_lst (l : List Val) (h : Hv) : vLen (.lst l) h = .ok (.int l.length) h := nrfl rfl
@[simp] theorem vIter_lst (l : List Val) (h : Hv) : vIter (.lst l) h = .ok (l, none) h := nrfl rfl
@[simp] theorem vIter_tup (l : List Val) (h : Hv) : vIter (.tup l) h = .ok (l, none) h := nrfl rfl
@[simp] theorem vIter_fz (l : List Val) (h : Hv) : vIter (.fz l) h = .ok (l, none) h := nrfl rfl
@[simp] theorem srcOk_none (l : List Val) (h : Hv) : srcOk (l, none) h := trivial
theorem vMod_ok {a b : Int} (h : Hv) (hb : 0 < b) : vMod (.int a) (.int b) h = .ok (.int (a % b)) h := by simp [vMod, hb]
theorem vDiv_ok {a b : Int} (h : Hv) (hb : 0 < b) (h2 : b < 1073741824) : vDiv (.int a) (.int b) h = .ok (.int (a / b)) h := by simp [vDiv, hb, h2]
theorem vIx_tup {l : List Val} {i : Int} {v : Val} {h : Hv} (e : nth l i = some v) : vIx (.tup l) (.int i) h = .ok v h := by simp [vIx, seqOf, e]
theorem vIx_lst {l : List Val} {i : Int} {v : Val} {h : Hv} (e : nth l i = some v) : vIx (.lst l) (.int i) h = .ok v h := by simp [vIx, seqOf, lstOf, e]
theorem vIx_dic {i : Nat} {d : List (Val × Val)} {s : List Nat} {v : Val} {h : Hv} (e : h[i]? = some (.dic d)) (g : dGet d (.str s) = some v) : vIx (.ref i) (.str s) h = .ok v h := by
  simp [vIx, seqOf, lstOf, dicOf, e, keyOf, g]
theorem nth_of {α : Type} {l : List α} {i : Int} (h0 : 0 ≤ i) (h1 : i < l.length) : ∃ v, nth l i = some v ∧ v ∈ l := by
  have hi : i.toNat < l.length := by omega
  exact ⟨l[i.toNat], by simp [nth, h0, hi], List.getElem_mem hi⟩

/-! ### the tape -/
structure Tape where
  cells : List Int
  at_ : Int
  left : Int
  seed : Int
  salt : Int
def kCells : List Nat := [99, 101, 108, 108, 115]
def Tape.dic (t : Tape) : List (Val × Val) := [(.str [99, 101, 108, 108, 115], .lst (t.cells.map .int)), (.str [97, 116], .int t.at_), (.str [108, 101, 102, 116], .int t.left), (.str [115, 101, 101, 100], .int t.seed), (.str [115, 97, 108, 116], .int t.salt)]
/-- a tape as an object -/
def TapeOb (o : Ob) : Prop := ∃ t : Tape, 0 ≤ t.at_ ∧ o = .dic t.dic
noncomputable def bTake : Stm := (sSeq (sIf (dAnd (dB (dBin vEq (dBin vIx (dVar 0) (dC (.str [108, 101, 102, 116]))) (dC (.int 0)))) (dB (dBin vLt (dBin vIx (dVar 0) (dC (.str [97, 116]))) (dLen (dBin vIx (dVar 0) (dC (.str [99, 101, 108, 108, 115]))))))) (sSeq (sAsg (dBin vIx (dBin vIx (dVar 0) (dC (.str [99, 101, 108, 108, 115]))) (dBin vIx (dVar 0) (dC (.str [97, 116])))) (gSub (dVar 0) (dC (.str [108, 101, 102, 116]))))
    (sSeq (sAsg (dBin vAdd (dBin vIx (dVar 0) (dC (.str [97, 116]))) (dC (.int 1))) (gSub (dVar 0) (dC (.str [97, 116]))))
    sNext)) sNext)
    (sSeq (sIf (dB (dBin vGt (dBin vIx (dVar 0) (dC (.str [108, 101, 102, 116]))) (dC (.int 0)))) (sSeq (sAsg (dBin vMod (dFn vInt (dBin vIx (dVar 0) (dC (.str [108, 101, 102, 116])))) (dVar 1)) (gName 3))
    (sSeq (sAsg (dBin vDiv (dBin vIx (dVar 0) (dC (.str [108, 101, 102, 116]))) (dVar 1)) (gSub (dVar 0) (dC (.str [108, 101, 102, 116]))))
    (sSeq (sRet (dVar 3))
    sNext))) sNext)
    (sSeq (sAsg (dBin vAdd (dBin vIx (dVar 0) (dC (.str [115, 97, 108, 116]))) (dC (.int 1))) (gSub (dVar 0) (dC (.str [115, 97, 108, 116]))))
    (sSeq (sAsg (dBin vMod (dFn vInt (dBin vAdd (dBin vMul (dBin vIx (dVar 0) (dC (.str [115, 101, 101, 100]))) (dC (.int 48271))) (dBin vMul (dBin vIx (dVar 0) (dC (.str [115, 97, 108, 116]))) (dC (.int 69621))))) (dC (.int 2147483647))) (gName 2))
    (sSeq (sAsg (dBin vMod (dFn vInt (dBin vAdd (dBin vAdd (dBin vMul (dVar 2) (dVar 2)) (dBin vMul (dBin vIx (dVar 0) (dC (.str [115, 97, 108, 116]))) (dC (.int 40692)))) (dC (.int 12345)))) (dC (.int 2147483399))) (gName 2))
    (sSeq (sRet (dBin vMod (dFn vInt (dVar 2)) (dVar 1)))
    sNext))))))
noncomputable def bTape : Stm := (sSeq (sAsg (dLc frozen [3] (iSeq (dVar 0)) (gName 3) dYes (dFn vAbs (dFn vInt (dVar 3)))) (gName 1))
    (sSeq (sAsg (dC (.int 7)) (gName 2))
    (sSeq (sFor (iSeq (dVar 1)) (gName 3) (sSeq (sAsg (dBin vMod (dFn vInt (dBin vAdd (dBin vMul (dVar 2) (dC (.int 31))) (dVar 3))) (dC (.int 2147483647))) (gName 2))
    sNext))
    (sSeq (sRet (dDisp (((dC (.str [99, 101, 108, 108, 115])), (dVar 1)) :: (((dC (.str [97, 116])), (dC (.int 0))) :: (((dC (.str [108, 101, 102, 116])), (dC (.int 0))) :: (((dC (.str [115, 101, 101, 100])), (dVar 2)) :: (((dC (.str [115, 97, 108, 116])), (dC (.int 0))) :: [])))))))
    sNext))))
section
variable (t : Tape) (g : Hv)
@[simp] theorem tp_cells : vIx (.ref 0) (.str [99, 101, 108, 108, 115]) (.dic t.dic :: g) = .ok (.lst (t.cells.map .int)) (.dic t.dic :: g) := nrfl rfl
@[simp] theorem tp_at : vIx (.ref 0) (.str [97, 116]) (.dic t.dic :: g) = .ok (.int t.at_) (.dic t.dic :: g) := nrfl rfl
@[simp] theorem tp_left : vIx (.ref 0) (.str [108, 101, 102, 116]) (.dic t.dic :: g) = .ok (.int t.left) (.dic t.dic :: g) := nrfl rfl
@[simp] theorem tp_seed : vIx (.ref 0) (.str [115, 101, 101, 100]) (.dic t.dic :: g) = .ok (.int t.seed) (.dic t.dic :: g) := nrfl rfl
@[simp] theorem tp_salt : vIx (.ref 0) (.str [115, 97, 108, 116]) (.dic t.dic :: g) = .ok (.int t.salt) (.dic t.dic :: g) := nrfl rfl
@[simp] theorem ts_at (i : Int) : vSet (.ref 0) (.str [97, 116]) (.int i) (.dic t.dic :: g) = some (.dic { t with at_ := i }.dic :: g) := nrfl rfl
@[simp] theorem ts_left (i : Int) : vSet (.ref 0) (.str [108, 101, 102, 116]) (.int i) (.dic t.dic :: g) = some (.dic { t with left := i }.dic :: g) := nrfl rfl
@[simp] theorem ts_salt (i : Int) : vSet (.ref 0) (.str [115, 97, 108, 116]) (.int i) (.dic t.dic :: g) = some (.dic { t with salt := i }.dic :: g) := nrfl rfl
end
theorem big_of {a : Int} (h1 : -18446744073709551616 < a) (h2 : a < 18446744073709551616) : big64 a = true := by
  unfold big64
  have e : (2 : Int) ^ 64 = 18446744073709551616 := by decide
  rw [e]
  simp [h1, h2]
theorem big_mod (x : Int) : big64 (x % 2147483647) = true := by
  have q1 := Int.emod_nonneg x (show (2147483647 : Int) ≠ 0 by omega)
  have q2 := Int.emod_lt_of_pos x (show (0 : Int) < 2147483647 by omega)
  exact big_of (by omega) (by omega)
theorem big_a : big64 48271 = true := big_of (by omega) (by omega)
theorem big_b : big64 69621 = true := big_of (by omega) (by omega)
theorem big_c : big64 40692 = true := big_of (by omega) (by omega)
theorem big_d : big64 31 = true := big_of (by omega) (by omega)
theorem vMul_ok {a b : Int} (h : Hv) (hb : big64 a = true ∨ big64 b = true) : vMul (.int a) (.int b) h = .ok (.int (a * b)) h := by
  have : (big64 a || big64 b) = true := by simpa using hb
  simp [vMul, this]
theorem p1 : (0 : Int) < 2147483647 := by omega
theorem p2 : (0 : Int) < 2147483399 := by omega
theorem take_key {m : Int} {g : Hv} {P : Val → Hv → Prop} (hm : 0 < m) (hm2 : m < 1073741824) (k : ∀ r o', 0 ≤ r → r < m → TapeOb o' → P (.int r) (o' :: g)) (t : Tape) (ht : 0 ≤ t.at_) : sok ((sSeq (sIf (dB (dBin vGt (dBin vIx (dVar 0) (dC (.str [108, 101, 102, 116]))) (dC (.int 0)))) (sSeq (sAsg (dBin vMod (dFn vInt (dBin vIx (dVar 0) (dC (.str [108, 101, 102, 116])))) (dVar 1)) (gName 3))
    (sSeq (sAsg (dBin vDiv (dBin vIx (dVar 0) (dC (.str [108, 101, 102, 116]))) (dVar 1)) (gSub (dVar 0) (dC (.str [108, 101, 102, 116]))))
    (sSeq (sRet (dVar 3))
    sNext))) sNext)
    (sSeq (sAsg (dBin vAdd (dBin vIx (dVar 0) (dC (.str [115, 97, 108, 116]))) (dC (.int 1))) (gSub (dVar 0) (dC (.str [115, 97, 108, 116]))))
    (sSeq (sAsg (dBin vMod (dFn vInt (dBin vAdd (dBin vMul (dBin vIx (dVar 0) (dC (.str [115, 101, 101, 100]))) (dC (.int 48271))) (dBin vMul (dBin vIx (dVar 0) (dC (.str [115, 97, 108, 116]))) (dC (.int 69621))))) (dC (.int 2147483647))) (gName 2))
    (sSeq (sAsg (dBin vMod (dFn vInt (dBin vAdd (dBin vAdd (dBin vMul (dVar 2) (dVar 2)) (dBin vMul (dBin vIx (dVar 0) (dC (.str [115, 97, 108, 116]))) (dC (.int 40692)))) (dC (.int 12345)))) (dC (.int 2147483399))) (gName 2))
    (sSeq (sRet (dBin vMod (dFn vInt (dVar 2)) (dVar 1)))
    sNext))))) [some (.ref 0), some (.int m), none, none] (.dic t.dic :: g)) { nx := fun _ h => P .non h, rt := P } := by
    by_cases hl : 0 < t.left
    · simp [dVar]
      simp [hl, dVar, vMod_ok _ hm, vDiv_ok _ hm hm2]
      exact k _ _ (Int.emod_nonneg _ (by omega)) (Int.emod_lt_of_pos _ hm) ⟨_, by exact ht, rfl⟩
    · refine sok_seq (fun l h => l = [some (.ref 0), some (.int m), none, none] ∧ h = .dic t.dic :: g) (by simp [hl, dVar]) ?_
      rintro l h ⟨rfl, rfl⟩
      refine sok_seq (fun l h => l = [some (.ref 0), some (.int m), none, none] ∧ ∃ t' : Tape, 0 ≤ t'.at_ ∧ h = .dic t'.dic :: g) (by simp [dVar]; exact ⟨_, by exact ht, rfl⟩) ?_
      rintro l h ⟨rfl, t, ht, rfl⟩
      refine sok_seq (fun l h => (∃ x, big64 x = true ∧ l = [some (.ref 0), some (.int m), some (.int x), none]) ∧ h = .dic t.dic :: g) ?_ ?_
      · simp [dVar, vMul_ok _ (.inr big_a), vMul_ok _ (.inr big_b), vMod_ok _ p1]
        exact big_mod _
      rintro l h ⟨⟨x, hx, rfl⟩, rfl⟩
      refine sok_seq (fun l h => (∃ x, l = [some (.ref 0), some (.int m), some (.int x), none]) ∧ h = .dic t.dic :: g) ?_ ?_
      · simp [dVar, vMul_ok _ (.inl hx), vMul_ok _ (.inr big_c), vMod_ok _ p2]
      rintro l h ⟨⟨x, rfl⟩, rfl⟩
      simp [dVar, vMod_ok _ hm]
      exact k _ _ (Int.emod_nonneg _ (by omega)) (Int.emod_lt_of_pos _ hm) ⟨_, by exact ht, rfl⟩
theorem take_sp {m : Int} {o : Ob} {g : Hv} {P : Val → Hv → Prop} (hm : 0 < m) (hm2 : m < 1073741824) (ho : TapeOb o)
    (k : ∀ r o', 0 ≤ r → r < m → TapeOb o' → P (.int r) (o' :: g)) : ok (runDef 4 bTake [.ref 0, .int m] (o :: g)) P := by
  obtain ⟨t, ht, rfl⟩ := ho
  rw [ok_run]
  refine sok_seq (fun l h => l = [some (.ref 0), some (.int m), none, none] ∧ ∃ t' : Tape, 0 ≤ t'.at_ ∧ h = .dic t'.dic :: g) ?_ (fun l h ⟨e1, t', h1, e2⟩ => by subst e1 e2; exact take_key hm hm2 k t' h1)
  simp [dVar]
  by_cases hc : t.left = 0
  · by_cases h2 : t.at_ < t.cells.length
    · obtain ⟨v, e1, e2⟩ := nth_of (l := t.cells.map Val.int) ht (by simpa using h2)
      obtain ⟨c, hc', rfl⟩ := List.mem_map.mp e2
      simp [hc, h2, dVar, vIx_lst e1]
      exact ⟨{ t with left := c, at_ := t.at_ + 1 }, by show 0 ≤ t.at_ + 1; omega, rfl⟩
    · simp [hc, h2, dVar]
      exact ⟨t, ht, rfl⟩
  · simp [hc, dVar]
    exact ⟨t, ht, rfl⟩
theorem tape_sp {ns : List Int} {h : Hv} {P : Val → Hv → Prop} (k : ∀ o, TapeOb o → P (.ref h.length) (h ++ [o])) : ok (runDef 4 bTape [.fz (ns.map .int)] h) P := by
  simp only [ok_run, bTape, e_seq, sok_then]
  simp only [List.map_cons, List.map_nil, List.length_cons, List.length_nil, List.cons_append, List.nil_append, List.replicate]
  simp [dVar]
  refine lc_pure (fun _ => true) (fun v => match v with | .int i => .int (if i < 0 then -i else i) | v => v) trivial ?_ ?_
  · intro x hx
    obtain ⟨i, hi, rfl⟩ := List.mem_map.mp hx
    simp [wipeL, dVar]
  · have e : ∀ ns : List Int, (List.filter (fun _ => true) (ns.map Val.int)).map (fun v => match v with | .int i => .int (if i < 0 then -i else i) | v => v) = (ns.map fun i => if i < 0 then -i else i).map Val.int := by
      intro ns
      induction ns with
      | nil => rfl
      | cons n ns ih => simp only [List.map_cons, List.filter_cons, if_true] at ih ⊢; rw [ih]
    rw [e]
    refine forL_inv (fun items l h1 => h1 = h ∧ (∃ x y, l = [some (.fz (ns.map .int)), some (.lst ((ns.map fun i => if i < 0 then -i else i).map Val.int)), some (.int x), y]) ∧ ∀ z ∈ items, ∃ i, z = Val.int i) ?_ ?_ _ _ _ ?_
    · rintro x r l h1 ⟨rfl, ⟨s, y, rfl⟩, hz⟩
      obtain ⟨i, rfl⟩ := hz x (List.mem_cons_self ..)
      refine ⟨trivial, ?_⟩
      simp [dVar, vMul_ok _ (.inr big_d), vMod_ok _ p1]
      exact fun z hz' => hz z (List.mem_cons_of_mem _ hz')
    · rintro l h1 ⟨rfl, ⟨s, y, rfl⟩, _⟩
      refine ⟨trivial, ?_⟩
      simp [dDisp, dPairs, dVar, keyOf]
      exact k _ ⟨⟨ns.map fun i => if i < 0 then -i else i, 0, 0, s, 0⟩, Int.le_refl _, by simp [dMk, dPut, kEq, Tape.dic]⟩
    · exact ⟨rfl, ⟨7, none, rfl⟩, fun z hz => by obtain ⟨i, _, rfl⟩ := List.mem_map.mp hz; exact ⟨i, rfl⟩⟩
end GH
set_option Elab.async false
set_option linter.all false
set_option maxRecDepth 100000
set_option maxHeartbeats 1000000
set_option autoImplicit false
/-! Chained comparison; texts compared; more. -/
namespace GH
open PySem PySem.Spec PyProof.Rows L2
section
variable {X : Cx} {W : WX}
def dChain (f f' : Val → Val → Hv → Res Val) (da db dc : Den) : Den := fun l h => (da l h).bind fun v h1 => (db l h1).bind fun u h2 => (f v u h2).bind fun z h3 => match z with
  | .bl true => (dc l h3).bind fun w h4 => f' u w h4
  | .bl false => .ok (.bl false) h3
  | _ => .fail
theorem After.bind {α β γ δ : Type} {K : PySem.W.Frag} {W : WX} {rel : Gh → Hp → α → β → Prop} {rel2 : Gh → Hp → γ → δ → Prop} {σ : L2.St} {g : Gh} {H : Hp} {r : Res α} {k : α → Hv → Res γ} {Q : δ → Hp → Prop} {R : β → Hp → Prop} (A : After K W rel2 σ g H Q (r.bind k))
    (hk : ∀ v h1 g1 H1 x, Ext g H g1 H1 → HR K g1 H1 h1 → rel g1 H1 v x → After K W rel2 σ g1 H1 Q (k v h1) → R x H1) : After K W rel σ g H R r := by
  cases r with
  | ok v h1 => exact fun g' H' x E R' r => hk v h1 g' H' x E R' r (After.ext E A)
  | exc e h1 => exact A
  | fail => exact A
theorem tChain_of {f f' : Val → Val → Hv → Res Val} {da db dc : Den} {r r' : R2}
    (hr : ∀ (W : WX) (g : Gh) (H : Hp) (h : Hv) (σ : L2.St) (v u : Val) (x y : V) (Q : VK), HR X.K g H h → VR X.K g H v x → VR X.K g H u y → After X.K W (vr X.K) σ g H Q (f v u h) → r x y H Q)
    (hr' : ∀ (W : WX) (g : Gh) (H : Hp) (h : Hv) (σ : L2.St) (v u : Val) (x y : V) (Q : VK), HR X.K g H h → VR X.K g H v x → VR X.K g H u y → After X.K W (vr X.K) σ g H Q (f' v u h) → r' x y H Q)
    (σ : L2.St) (H : Hp) (Q : VK) (z : tG X.K W (vr X.K) (dChain f f' da db dc) σ H Q) : tChain r r' (tG X.K W (vr X.K) da) (tG X.K W (vr X.K) db) (tG X.K W (vr X.K) dc) σ H Q := by
  obtain ⟨g, l, h, S, R, A⟩ := z
  refine tG_of S R A fun v h1 g1 H1 x E S1 R1 r1 A1 => ?_
  refine tG_of S1 R1 A1 fun u h2 g2 H2 y E2 S2 R2 r2 A2 => ?_
  refine hr W g2 H2 h2 σ v u x y _ R2 (r1.ext R1 E2) r2 (After.bind A2 fun z h3 g3 H3 zx E3 R3 r3 A3 => ?_)
  cases z with
  | bl b =>
    have r3 : VR X.K g3 H3 (.bl b) zx := r3
    simp only [VR] at r3
    subst r3
    refine ⟨b, rfl, ?_⟩
    cases b with
    | false =>
      rw [if_neg Bool.false_ne_true]
      exact A3 g3 H3 _ Ext.refl R3 (by simp only [VR])
    | true =>
      rw [if_pos rfl]
      have S3 := S2.ext R2 E3
      refine tG_of S3 R3 A3 fun w h4 g4 H4 wx E4 S4 R4 r4 A4 => ?_
      exact hr' W g4 H4 h4 σ u w y wx Q R4 ((VR.ext R2 E3 r2).ext R3 E4) r4 A4
  | _ => exact A3.elim
theorem ge_chain {op op' : CmpOp} {f f' : Val → Val → Hv → Res Val} {a b c : Expr} {da db dc : Den} {pos : Pos} (ho : OpG X (compareOp op) f) (ho' : OpG X (compareOp op') f') (ha : GE X W a da) (hb : GE X W b db) (hc : GE X W c dc)
    (hm : lastMarks [op, op'] [b, c] = false := by with_unfolding_all rfl) : GE X W (.Compare a [op, op'] [b, c] pos) (dChain f f' da db dc) := by
  obtain ⟨r, ho, hr⟩ := ho
  obtain ⟨r', ho', hr'⟩ := ho'
  exact PE.imp (pe_chain ho ho' ha hb hc hm) fun σ H Q z => tChain_of hr hr' σ H Q z
theorem gt_chain {op op' : CmpOp} {f f' : Val → Val → Hv → Res Val} {a b c : Expr} {da db dc : Den} {pos : Pos} (ho : OpG X (compareOp op) f) (ho' : OpG X (compareOp op') f') (ha : GE X W a da) (hb : GE X W b db) (hc : GE X W c dc)
    (hm : lastMarks [op, op'] [b, c] = false := by with_unfolding_all rfl) : GT X W (.Compare a [op, op'] [b, c] pos) (dB (dChain f f' da db dc)) := by
  obtain ⟨r, ho, hr⟩ := ho
  obtain ⟨r', ho', hr'⟩ := ho'
  exact PT.imp (pt_chain ho ho' ha hb hc hm) fun σ H Q z => tChain_of (W := W) hr hr' σ H _ (tB_of z)
/-! texts -/
def vCmpS (p : Int → Int → Bool) (q : List Nat → List Nat → Bool) (v u : Val) (h : Hv) : Res Val := match v, u with
  | .int i, .int j => .ok (.bl (p i j)) h
  | .str a, .str b => .ok (.bl (q a b)) h
  | _, _ => .fail
theorem og_cmpS {op : CmpOp} {p : Int → Int → Bool} {q : List Nat → List Nat → Bool} (ho : OpR X (compareOp op) (rI0 fun i j => .bl (p i j))) {F : Str → Str → Bool} (hs : OpR X (compareOp op) (fun x y H Q => ∃ i j, x = .str i ∧ y = .str j ∧ Q (.bl (F i j)) H)) (hF : ∀ a b, F (sOf a) (sOf b) = q a b) :
    OpG X (compareOp op) (vCmpS p q) := by
  refine ⟨_, ho.or hs, fun W g H h σ v u x y Q R rv ru A => ?_⟩
  unfold vCmpS at A
  split at A
  · simp only [VR] at rv ru
    subst rv ru
    exact .inl ⟨_, _, rfl, rfl, A g H _ Ext.refl R (by simp only [VR])⟩
  · simp only [VR] at rv ru
    subst rv ru
    exact .inr ⟨_, _, rfl, rfl, A g H _ Ext.refl R (by simp only [VR]; rw [hF])⟩
  · exact A.elim
abbrev vLtS := vCmpS (fun i j => decide (i < j)) fun a b => decide (a < b)
abbrev vLeS := vCmpS (fun i j => decide (i ≤ j)) fun a b => !decide (b < a)
abbrev vGtS := vCmpS (fun i j => decide (j < i)) fun a b => decide (b < a)
abbrev vGeS := vCmpS (fun i j => decide (j ≤ i)) fun a b => !decide (a < b)
theorem og_ltS : OpG X (compareOp .Lt) vLtS := og_cmpS op_lt op_lt_str fun a b => decide_eq_decide.mpr Iff.rfl
theorem og_leS : OpG X (compareOp .LtE) vLeS := og_cmpS op_le op_le_str fun a b => congrArg (!·) (decide_eq_decide.mpr Iff.rfl)
theorem og_gtS : OpG X (compareOp .Gt) vGtS := og_cmpS op_gt op_gt_str fun a b => decide_eq_decide.mpr Iff.rfl
theorem og_geS : OpG X (compareOp .GtE) vGeS := og_cmpS op_ge op_ge_str fun a b => congrArg (!·) (decide_eq_decide.mpr Iff.rfl)
/-- an int of the top -/
theorem ge_topi {x : Str} {i : Int} {pos : Pos} (hm : ∃ t, X.mg x = some (.int i t)) (hg : Gl X x := by rfl) (hd : (x == ("__debug__" : Str)) = false := by decide +kernel) : GE X W (.Name x pos) (dC (.int i)) := by
  obtain ⟨t, hm⟩ := hm
  exact ge_top (y := .int i) hm ⟨t, rfl⟩ (fun g H => by simp only [VR]) hg hd
/-- a text of the top -/
theorem ge_tops {x z : Str} (s : List Nat) {pos : Pos} (hm : ∃ t, X.mg x = some (.str z t)) (e : z = sOf s := by decide +kernel) (hg : Gl X x := by rfl) (hd : (x == ("__debug__" : Str)) = false := by decide +kernel) : GE X W (.Name x pos) (dC (.str s)) := by
  obtain ⟨t, hm⟩ := hm
  subst e
  exact ge_top (y := .str (sOf s)) hm ⟨t, rfl⟩ (fun g H => by simp only [VR]) hg hd
end
end GH
set_option Elab.async false
set_option linter.all false
set_option maxRecDepth 100000
set_option maxHeartbeats 1000000
set_option autoImplicit false
/-! Dict comprehensions. -/
namespace GH
open PySem PySem.Spec PyProof.Rows L2
open Classical in
noncomputable def dcL (t : Tg) (c : DenG Bool) (ek e : Den) (s : Src) : List Val → List (Val × Val) → Loc → Hv → Res (List (Val × Val))
  | [], acc, _, h => if srcOk s h then .ok acc h else .fail
  | x :: r, acc, l, h => if srcOk s h then (match t x l h with
    | .ok l1 h1 => (match c l1 h1 with
      | .ok b h2 => if b = true then (match ek l1 h2 with
        | .ok k h3 => (match e l1 h3 with
          | .ok v h4 => (match keyOf k with
            | some _ => dcL t c ek e s r (dPut acc k v) l h4
            | none => .fail)
          | _ => .fail)
        | _ => .fail) else dcL t c ek e s r acc l h2
      | _ => .fail)
    | _ => .fail) else .fail
def finD (ys : List (Val × Val)) (h : Hv) : Res Val := .ok (.ref h.length) (h ++ [.dic ys])
noncomputable def dDc (vs : List Nat) (di : DenG Src) (t : Tg) (c : DenG Bool) (ek e : Den) : Den := fun l h => (di l h).bind fun s h1 => (dcL t c ek e s s.1 [] (wipeL l vs) h1).bind finD
section
variable {K : PySem.W.Frag}
theorem upd_self' {H : Hp} {D : Addr} {o : HO} (e : H D = some o) : upd H D o = H := by
  funext b
  by_cases hb : b = D
  · subst hb; rw [upd_same, e]
  · rw [upd_ne hb]
theorem finD_ok {W : WX} {σ : L2.St} {g1 g2 : Gh} {H1 H : Hp} {h h1 : Hv} {Q : VK} {D : Addr} {ys : List (Val × Val)} {xs : List (Key × V)} (nD : H1 D = none) (R1 : HR K g1 H1 h1) (E : Ext ⟨g1.m, D :: g1.r⟩ (upd H1 D (.dK [])) g2 (upd H D (.dK []))) (R2 : HR K g2 H h) (eD : H D = some (.dK xs)) (r : DR K g2 H ys xs)
    (A : After K W (vr K) σ g1 H1 Q (.ok (.ref h.length) (h ++ [.dic ys]))) : Q (.ref D) H := by
  have hD : D ∈ g2.r := by rw [E.r]; exact List.mem_cons_self ..
  have R3 := R2.reset (zs := .dK []) hD eD trivial trivial
  have q := promote (o1 := .dK xs) (ob := .dic ys) R1 nD E R3 trivial (fun hm ho => by
    refine ⟨xs, upd_same, r.1, ?_⟩
    have := r.2.own hm ho
    rw [upd_upd, upd_self' eD]
    exact this) A
  rw [upd_upd, upd_self' eD] at q
  exact q
theorem dc_red {W : WX} {vs : List Nat} {di : DenG Src} {t : Tg} {c : DenG Bool} {ek e : Den} {σ : L2.St} {H : Hp} {Q : VK} (z : tG K W (vr K) (dDc vs di t c ek e) σ H Q) :
    tDc (tI K W di) (tTc K vs t) (tG K W0 br c) (tG K W0 (vr K) ek) (tG K W0 (vr K) e) vs σ H Q := by
  obtain ⟨g, l, h, S, R, A⟩ := z
  refine ⟨g, l, h, S, R, ?_⟩
  unfold dDc at A
  unfold AfterI
  cases ed : di l h with
  | exc x h1 => rw [ed] at A; exact A
  | fail => rw [ed] at A; exact A
  | ok s h1 =>
    rw [ed] at A
    simp only [Res.bind_ok] at A
    have ok1 : srcOk s h1 := by
      cases hs1 : s.1 with
      | nil =>
        rw [hs1] at A
        simp only [dcL] at A
        split at A
        · assumption
        · exact A.elim
      | cons x r =>
        rw [hs1] at A
        simp only [dcL] at A
        split at A
        · assumption
        · exact A.elim
    refine ⟨ok1, fun g1 H1 J E1 R1 hz sv D nD => ?_⟩
    have A := After.ext E1 A
    have al : ∀ b ∈ g1.r, ∃ o, H1 b = some o := fun b hb => R1.own_there (.inr hb)
    have S1 := S.ext R E1
    -- the new list is put aside
    have ES : ExtS g1 H1 ⟨g1.m, D :: g1.r⟩ (upd H1 D (.dK [])) := ⟨⟨[], by simp, by simp⟩, ⟨[D], rfl, fun b hb => by rw [List.mem_singleton.mp hb]; exact nD⟩, fun b o e hb => by rw [upd_ne (ne_of_none e nD)]; exact e⟩
    have RD : HR K ⟨g1.m, D :: g1.r⟩ (upd H1 D (.dK [])) h1 := by
      refine ⟨R1.len, R1.nd, fun a ha z => ?_, fun a ha => ?_, fun i o a e1 e2 => ?_⟩
      · rcases List.mem_cons.mp z with z | z
        · subst z; exact R1.fresh nD (.inl ha)
        · exact R1.dis a ha z
      · rcases List.mem_cons.mp ha with z | z
        · subst z; exact ⟨_, upd_same, trivial⟩
        · obtain ⟨ob, e, mo⟩ := R1.al a z
          exact ⟨ob, by rw [upd_ne (ne_of_none e nD)]; exact e, mo⟩
      · have q := R1.obj i o a e1 e2
        cases o with
        | lst l => obtain ⟨xs, e, r⟩ := q; exact ⟨xs, by rw [upd_ne (ne_of_none e nD)]; exact e, r.extS R1 ES⟩
        | dic l => obtain ⟨xs, e, r⟩ := q; exact ⟨xs, by rw [upd_ne (ne_of_none e nD)]; exact e, r.1, r.2.extS R1 ES⟩
        | ins c f => obtain ⟨dx, gs, e, r⟩ := q; exact ⟨dx, gs, by rw [upd_ne (ne_of_none e nD)]; exact e, r.1, r.2.extS R1 ES⟩
    let Wd : Nat → Hp → Prop := fun i H => ∃ g2 h2 ys xs, H D = some (.dK xs) ∧ Ext ⟨g1.m, D :: g1.r⟩ (upd H1 D (.dK [])) g2 (upd H D (.dK [])) ∧ HR K g2 H h2 ∧ DR K g2 H ys xs ∧ xs.length ≤ i ∧ i ≤ s.1.length ∧
      After K W (vr K) σ g1 H1 Q ((dcL t c ek e s (s.1.drop i) ys (wipeL l vs) h2).bind finD)
    refine ⟨fun i m H => m = s.1.length - i ∧ Wd i H, ⟨s.1.length, by simp, ⟨g1.m, D :: g1.r⟩, h1, [], [], upd_same, by rw [upd_upd]; exact Ext.refl, RD, DR.nil, by simp, Nat.zero_le _, by simpa using A⟩, ?_⟩
    rintro i m H ⟨rfl, g2, h2, ys, xs, eD, E, R2, r, hl, hil, A⟩
    have hDr : D ∈ g2.r := by rw [E.r]; exact List.mem_cons_self ..
    have hDm : D ∉ g2.m := fun z => R2.dis D z hDr
    obtain ⟨tm, em, nm⟩ := E.m
    have em : g2.m = g1.m ++ tm := em
    have nm : ∀ b ∈ tm, H1 b = none := fun b hb => by
      have q := nm b hb
      have hne : b ≠ D := by rintro rfl; rw [upd_same] at q; cases q
      rw [upd_ne hne] at q
      exact q
    have keep : ∀ b o, H1 b = some o → b ∉ g1.m → H b = some o := fun b o e hb => by
      have hne := ne_of_none e nD
      have q := E.keep b o (by rw [upd_ne hne]; exact e) hb
      rw [upd_ne hne] at q
      exact q
    have E2S : ExtS g1 H1 g2 H := ⟨⟨tm, em, nm⟩, ⟨[D], E.r, fun b hb => by rw [List.mem_singleton.mp hb]; exact nD⟩, fun b o e hb => keep b o e fun z => hb (.inl z)⟩
    have E2 : Ext g1 H1 ⟨g2.m, g1.r⟩ H := ⟨⟨tm, em, nm⟩, rfl, keep, fun b o e => by
      have hne := ne_of_none e nD
      obtain ⟨o', q⟩ := E.there b o (by rw [upd_ne hne]; exact e)
      rw [upd_ne hne] at q
      exact ⟨o', q⟩⟩
    have S2 : SR K g2 H (wipeL l vs) (wipe σ vs) := (S1.extS R1 E2S).wipe vs
    cases hd : s.1.drop i with
    | nil =>
      have hle : s.1.length ≤ i := List.drop_eq_nil_iff.mp hd
      rw [hd] at A
      simp only [dcL] at A
      split at A
      · rename_i ok
        exact .inl ⟨(sv g2 H h2 E2S R2 ok i).2 (Nat.le_antisymm hil hle), finD_ok nD R1 E R2 eD r A⟩
      · exact A.elim
    | cons v rest =>
      have hlt : i < s.1.length := by
        by_cases q : i < s.1.length
        · exact q
        · rw [List.drop_eq_nil_iff.mpr (by omega)] at hd; cases hd
      have hv : s.1[i]? = some v := by
        have q := congrArg List.head? hd
        rw [List.head?_drop] at q
        simpa using q
      have hr : s.1.drop (i + 1) = rest := by
        have q := congrArg List.tail hd
        rw [List.tail_drop] at q
        simpa using q
      rw [hd] at A
      simp only [dcL] at A
      split at A
      · rename_i ok
        obtain ⟨go, yl⟩ := (sv g2 H h2 E2S R2 ok i).1 v hv
        refine .inr ⟨go, Wd (i + 1), fun H' q => ⟨s.1.length - (i + 1), by omega, rfl, q⟩, fun x H' y => ?_⟩
        obtain ⟨E3, R3, rx⟩ := yl x H' y
        refine ⟨g2, wipeL l vs, h2, v, S2.ext R2 E3, R3, rx, ?_⟩
        cases et : t v (wipeL l vs) h2 with
        | exc x l1 h1 => rw [et] at A; exact A
        | fail => rw [et] at A; exact A
        | ok l3 h3 =>
          rw [et] at A
          simp only at A
          intro g4 H4 σ4 E4 R4 S4 w4
          refine ⟨w4.trans (wipe_wipe fun _ hu => hu), g4, l3, h3, S4, R4, ?_⟩
          cases ec : c l3 h3 with
          | exc x h1 => rw [ec] at A; exact A.elim
          | fail => rw [ec] at A; exact A.elim
          | ok b h5 =>
            rw [ec] at A
            simp only at A
            intro g5 H5 b' E5 R5 eb
            obtain rfl : b = b' := eb
            have E25 := (E3.trans E4).trans E5
            have keepD : ∀ {g6 : Gh} {H6 : Hp}, Ext g2 H g6 H6 → H6 D = some (.dK xs) := fun E6 => E6.keep D _ eD hDm
            cases b with
            | false =>
              rw [if_neg Bool.false_ne_true] at A ⊢
              exact ⟨g5, h5, ys, xs, keepD E25, E.trans (E25.reset hDm eD), R5, ⟨r.1, r.2.ext R2 E25⟩, by omega, hlt, by rw [hr]; exact A⟩
            | true =>
              rw [if_pos rfl] at A ⊢
              refine ⟨g5, l3, h5, S4.ext R4 E5, R5, ?_⟩
              cases ek0 : ek l3 h5 with
              | exc x h1 => rw [ek0] at A; exact A.elim
              | fail => rw [ek0] at A; exact A.elim
              | ok ky h5k =>
                rw [ek0] at A
                simp only at A
                intro g5k H5k kx E5k R5k rk
                refine ⟨g5k, l3, h5k, (S4.ext R4 E5).ext R5 E5k, R5k, ?_⟩
                cases ee : e l3 h5k with
                | exc x h1 => rw [ee] at A; exact A.elim
                | fail => rw [ee] at A; exact A.elim
                | ok y h6 =>
                  rw [ee] at A
                  simp only at A
                  intro g6 H6 xv E6 R6 rv
                  split at A
                  · rename_i kk hkk
                    have E26 := (E25.trans E5k).trans E6
                    have hD6 : D ∈ g6.r := by rw [E26.r]; exact hDr
                    have k6 := keepD E26
                    have rk6 := VR.ext R5k E6 rk
                    have dr : DR K g6 H6 (dPut ys ky y) (putK xs kk xv) := DR.put ⟨r.1, r.2.ext R2 E26⟩ hkk rv
                    have hle := length_putK xs kk xv
                    refine ⟨xs, kk, key_V rk hkk, k6, by omega, g6, h6, dPut ys ky y, putK xs kk xv, upd_same, ?_, R6.reset hD6 k6 trivial trivial, ⟨dr.1, dr.2.reset hD6 k6 trivial⟩, by omega, hlt, by rw [hr]; exact A⟩
                    rw [upd_upd]
                    exact E.trans (E26.reset hDm eD)
                  · exact A.elim
      · exact A.elim
end
section
variable {X : Cx} {W : WX}
theorem ge_dc {kx vx tg iter : Expr} {ifs : List Expr} {scope : Scope} (own : List (Str × Nat)) {pos : Pos} {di : DenG Src} {t : Tg} {c : DenG Bool} {ek e : Den} (hc : X.calm = true) (hN : X.N.Nodup) (hi : GI X W tg iter di)
    (hg : ∀ (s : Shared) (H : Hp) (C : Addr) (cl : List (Str × Addr)) (fp : List Addr), GC (X.blk s H scope (compEnvC scope cl C X.env) fp) (own.map (·.2)) tg t) (ht : ∀ (s : Shared) (H : Hp) (C : Addr) (cl : List (Str × Addr)) (fp : List Addr), GTs (X.blk s H scope (compEnvC scope cl C X.env) fp) W0 ifs c)
    (hk : ∀ (s : Shared) (H : Hp) (C : Addr) (cl : List (Str × Addr)) (fp : List Addr), GE (X.blk s H scope (compEnvC scope cl C X.env) fp) W0 kx ek)
    (he : ∀ (s : Shared) (H : Hp) (C : Addr) (cl : List (Str × Addr)) (fp : List Addr), GE (X.blk s H scope (compEnvC scope cl C X.env) fp) W0 vx e) (ok : blkC X.N X.env.scope scope own = true := by first | rfl | decide +kernel) (hs : ∀ x, foldedSetIterable iter X.env x = pure x := by intro _; rfl) :
    GE X W (.DictComp kx vx [⟨tg, iter, ifs, 0⟩] scope pos) (dDc (own.map (·.2)) di t c ek e) :=
  PE.imp (pe_dc (g := tTc X.K (own.map fun p : Str × Nat => p.2) t) (tt := tG X.K W0 br c) (tk := tG X.K W0 (vr X.K) ek) (tv := tG X.K W0 (vr X.K) e) hc hN hi (blkOk_by ok) hg ht hk he hs) fun σ H Q z => dc_red z
end
end GH
set_option Elab.async false
set_option linter.all false
set_option maxRecDepth 100000
set_option maxHeartbeats 1000000
set_option autoImplicit false
/-! max, min, join. -/
namespace GH
open PySem PySem.Spec PyProof.Rows L2
section
variable {X : Cx} {W : WX}
def vMax (v : Val) (h : Hv) : Res Val := match lstOf h v with
  | some l => match intsOf l with
    | some ns => match ns.max? with
      | some m => .ok (.int m) h
      | none => .fail
    | none => .fail
  | none => .fail
def vMin (v : Val) (h : Hv) : Res Val := match lstOf h v with
  | some l => match intsOf l with
    | some ns => match ns.min? with
      | some m => .ok (.int m) h
      | none => .fail
    | none => .fail
  | none => .fail
theorem c1_max (hc : X.calm = true) : C1 X (.builtin "max") vMax := ⟨_, cr_max hc, fun W g H h σ v x Q R r A => by
  unfold vMax at A
  split at A
  · rename_i l hl
    split at A
    · rename_i ns hn
      split at A
      · rename_i m hm
        obtain ⟨a, xs, rfl, s, rs⟩ := lstOf_ok R r hl
        rw [intsOf_ok hn rs] at s
        refine ⟨a, ns, rfl, SqL.of s, ?_, fun m' h1 h2 => ?_⟩
        · cases ns with
          | nil => cases hm
          | cons => simp
        · have := List.max?_eq_some_iff.mpr ⟨h1, h2⟩
          rw [hm] at this
          cases this
          exact A g H _ Ext.refl R (by simp only [VR])
      · exact A.elim
    · exact A.elim
  · exact A.elim⟩
theorem c1_min (hc : X.calm = true) : C1 X (.builtin "min") vMin := ⟨_, cr_min hc, fun W g H h σ v x Q R r A => by
  unfold vMin at A
  split at A
  · rename_i l hl
    split at A
    · rename_i ns hn
      split at A
      · rename_i m hm
        obtain ⟨a, xs, rfl, s, rs⟩ := lstOf_ok R r hl
        rw [intsOf_ok hn rs] at s
        refine ⟨a, ns, rfl, SqL.of s, ?_, fun m' h1 h2 => ?_⟩
        · cases ns with
          | nil => cases hm
          | cons => simp
        · have := List.min?_eq_some_iff.mpr ⟨h1, h2⟩
          rw [hm] at this
          cases this
          exact A g H _ Ext.refl R (by simp only [VR])
      · exact A.elim
    · exact A.elim
  · exact A.elim⟩
/-! max(a, b), min(a, b) -/
def C2 (X : Cx) (f : Value) (d : Val → Val → Hv → Res Val) : Prop := ∃ r, CallR X f r ∧ ∀ (W : WX) (g : Gh) (H : Hp) (h : Hv) (σ : L2.St) (v u : Val) (x y : V) (Q : VK), HR X.K g H h → VR X.K g H v x → VR X.K g H u y → After X.K W (vr X.K) σ g H Q (d v u h) → r [x, y] H Q
theorem ge_b2 {id : String} {f : Val → Val → Hv → Res Val} {a b : Expr} {da db : Den} {x : Str} {p pos : Pos} (hf : C2 X (.builtin id) f) (ha : GE X W a da) (hb : GE X W b db) (hm : X.mg x = none) (hg : Gl X x := by rfl) (hv : bootBuiltins x = some (.builtin id) := by decide +kernel) (hn : x ≠ "__name__" := by decide +kernel) (hdb : (x == ("__debug__" : Str)) = false := by decide +kernel)
    (hs1 : starEach [a, b] X.env = (false, eval a X.env) :: starEach [b] X.env := by rfl) (hst : starEach [b] X.env = (false, eval b X.env) :: starEach [] X.env := by rfl) (hpl : (backTo pos (starEach [b] X.env)).any (·.1) = false := by rfl) : GE X W (.Call (.Name x p) [a, b] [] pos) (dBin f da db) := by
  obtain ⟨r, hc, hr⟩ := hf
  refine PE.imp (pe_callB hc hg hm hv (pa_cons ha (pa_cons hb pa_nil hst) hs1) hn hdb hs1 hpl) fun σ H Q ⟨g, l, h, S, R, A⟩ => ?_
  refine tG_of S R A fun v h1 g1 H1 x E S1 R1 r1 A1 => ?_
  refine tG_of S1 R1 A1 fun u h2 g2 H2 y E2 S2 R2 r2 A2 => ?_
  exact hr W g2 H2 h2 σ v u x y Q R2 (r1.ext R1 E2) r2 A2
def vMax2 (v u : Val) (h : Hv) : Res Val := match v, u with
  | .int i, .int j => .ok (.int (if j > i then j else i)) h
  | _, _ => .fail
def vMin2 (v u : Val) (h : Hv) : Res Val := match v, u with
  | .int i, .int j => .ok (.int (if j < i then j else i)) h
  | _, _ => .fail
theorem c2_max (hc : X.calm = true) : C2 X (.builtin "max") vMax2 := ⟨_, call_max2 hc, fun W g H h σ v u x y Q R rv ru A => by
  unfold vMax2 at A
  split at A
  · simp only [VR] at rv ru
    subst rv ru
    exact ⟨_, _, rfl, A g H _ Ext.refl R (by simp only [VR])⟩
  · exact A.elim⟩
theorem c2_min (hc : X.calm = true) : C2 X (.builtin "min") vMin2 := ⟨_, call_min2 hc, fun W g H h σ v u x y Q R rv ru A => by
  unfold vMin2 at A
  split at A
  · simp only [VR] at rv ru
    subst rv ru
    exact ⟨_, _, rfl, A g H _ Ext.refl R (by simp only [VR])⟩
  · exact A.elim⟩
/-! a text joins texts -/
def strsOf : List Val → Option (List (List Nat))
  | [] => some []
  | .str s :: l => (strsOf l).map (s :: ·)
  | _ :: _ => none
theorem strsOf_ok {K : PySem.W.Frag} {g : Gh} {H : Hp} : ∀ {l : List Val} {ns : List (List Nat)} {xs : List V}, strsOf l = some ns → VRs K g H l xs → xs = (ns.map sOf).map V.str
  | [], ns, xs, e, r => by
    simp only [strsOf, Option.some.injEq] at e
    subst e
    simpa [VRs] using r
  | v :: l, ns, xs, e, r => by
    simp only [VRs] at r
    obtain ⟨x, xs', rfl, r1, r2⟩ := r
    cases v with
    | str s =>
      simp only [strsOf, Option.map_eq_some_iff] at e
      obtain ⟨ns', e, rfl⟩ := e
      simp only [VR] at r1
      rw [r1, strsOf_ok e r2]; rfl
    | _ => simp [strsOf] at e
def isStr (h : Hv) : Val → Bool
  | .str _ => true
  | _ => false
def vJoin (x v : Val) (h : Hv) : Res Val := match x with
  | .str a => match seqOf h v with
    | some l => match strsOf l with
      | some ys => if (ys.map List.length).sum + ys.length * a.length ≤ 16777216 then .ok (.str (TL.joinL a ys)) h else .fail
      | none => .fail
    | none => .fail
  | _ => .fail
theorem str_ty {K : PySem.W.Frag} {g : Gh} {H : Hp} {h : Hv} {v : Val} {x : V} (r : VR K g H v x) (e : isStr h v = true) : tyV K "str" x H := by
  cases v with
  | str s =>
    simp only [VR] at r
    subst r
    exact rfl
  | _ => exact absurd e Bool.false_ne_true
theorem m1_join : M1R X "str" "str.join" isStr vJoin := ⟨fun g H h v x R r e => str_ty r e, _, mt_join, fun W g H h σ v u x y Q R rv ru A => by
  unfold vJoin at A
  split at A
  · rename_i a
    split at A
    · rename_i l hl
      split at A
      · rename_i ys hy
        split at A
        · rename_i hz
          simp only [VR] at rv
          subst rv
          obtain ⟨p, xs, rfl, s, rs⟩ := seqOf_ok R ru hl
          have e := strsOf_ok hy rs
          refine ⟨_, p, ys.map sOf, rfl, rfl, by rw [e] at s; exact s, ?_, ?_⟩
          · have : ((ys.map sOf).map (·.length)) = ys.map List.length := by simp [sOf_len]
            rw [this, List.length_map, sOf_len]
            exact hz
          · rw [show Txt.join (sOf a) (ys.map sOf) = sOf (TL.joinL a ys) from SX.join_S a ys]
            exact A g H _ Ext.refl R (by simp only [VR])
        · exact A.elim
      · exact A.elim
    · exact A.elim
  · exact A.elim⟩
theorem ge_join {o e : Expr} {dx de : Den} {apos cpos : Pos} (ho : GE X W o dx) (he : GE X W e de) (hbase : attributeBase o "join" X.env (eval o X.env) = eval o X.env := by rfl)
    (hfew : ((backTo cpos (starEach [e] X.env)).all (fun x => !x.1) && (backToKw cpos (keywordEach [] X.env)).all (fun x => x.1.isSome)
      && decide (([e] : List Expr).length + ([] : List Keyword).length + (if ([] : List Keyword).isEmpty then 0 else 1) < 30)) = true := by rfl)
    (hline : (apos.endLine == cpos.line) = true := by rfl) (hs : starEach [e] X.env = (false, eval e X.env) :: starEach [] X.env := by rfl) (hplain : (backTo cpos (starEach [] X.env)).any (·.1) = false := by rfl) :
    GE X W (.Call (.Attribute o "join" apos) [e] [] cpos) (dMeth1 isStr vJoin dx de) :=
  ge_meth1 m1_join PySem.F.plainAttrs_str PySem.F.slot_str_join PySem.F.type_str_join ho he hbase hfew hline hs hplain
end
end GH
set_option Elab.async false
set_option linter.all false
set_option maxRecDepth 100000
set_option maxHeartbeats 1000000
set_option autoImplicit false
/-! Comprehensions of two clauses. -/
namespace GH
open PySem PySem.Spec PyProof.Rows L2
open Classical in
noncomputable def lcB (t : Tg) (c : DenG Bool) (e : Den) (s : Src) : List Val → List Val → Loc → Hv → Res (List Val)
  | [], acc, _, h => if srcOk s h then .ok acc h else .fail
  | x :: r, acc, l, h => if srcOk s h then (match t x l h with
    | .ok l1 h1 => (match c l1 h1 with
      | .ok b h2 => if b = true then (match e l1 h2 with
        | .ok v h3 => if acc.length < lineN then lcB t c e s r (acc ++ [v]) l h3 else .fail
        | _ => .fail) else lcB t c e s r acc l h2
      | _ => .fail)
    | _ => .fail) else .fail
open Classical in
noncomputable def lc2L (t : Tg) (c : DenG Bool) (di1 : DenG Src) (t1 : Tg) (c1 : DenG Bool) (e : Den) (vs1 : List Nat) (s : Src) : List Val → List Val → Loc → Hv → Res (List Val)
  | [], acc, _, h => if srcOk s h then .ok acc h else .fail
  | x :: r, acc, l, h => if srcOk s h then (match t x l h with
    | .ok l1 h1 => (match c l1 h1 with
      | .ok b h2 => if b = true then (match di1 l1 h2 with
        | .ok s1 h3 => (lcB t1 c1 e s1 s1.1 acc (wipeL l1 vs1) h3).bind fun acc' h4 => lc2L t c di1 t1 c1 e vs1 s r acc' l h4
        | _ => .fail) else lc2L t c di1 t1 c1 e vs1 s r acc l h2
      | _ => .fail)
    | _ => .fail) else .fail
noncomputable def dLc2 (fin : List Val → Hv → Res Val) (vs vs1 : List Nat) (di : DenG Src) (t : Tg) (c : DenG Bool) (di1 : DenG Src) (t1 : Tg) (c1 : DenG Bool) (e : Den) : Den := fun l h => (di l h).bind fun s h1 => (lc2L t c di1 t1 c1 e vs1 s s.1 [] (wipeL l vs) h1).bind fin
section
variable {K : PySem.W.Frag}
/-- the inner loop, from a state of the outer -/
theorem lc_inner {W : WX} {σ0 : L2.St} {Q : VK} {k : List Val → Hv → Res Val} {t : Tg} {c : DenG Bool} {e : Den} {vs : List Nat} {g1 g4 : Gh} {H1 H4 : Hp} {h1 h4 : Hv} {D : Addr} {ys0 : List Val} {xs0 : List V} {J : It} {s : Src} {σ : L2.St} {l : Loc} {Nx : Hp → Prop}
    (R1 : HR K g1 H1 h1) (nD : H1 D = none) (E0 : Ext ⟨g1.m, D :: g1.r⟩ (upd H1 D (.lst [])) g4 (upd H4 D (.lst []))) (R4 : HR K g4 H4 h4) (e4 : H4 D = some (.lst xs0)) (r4 : VRs K g4 H4 ys0 xs0) (S4 : SR K g4 H4 l σ) (sv : Serves K J g4 H4 s) (ok4 : srcOk s h4)
    (A0 : After K W (vr K) σ0 g1 H1 Q ((lcB t c e s s.1 ys0 (wipeL l vs) h4).bind k))
    (fin : ∀ g2 H h ys xs, Ext ⟨g1.m, D :: g1.r⟩ (upd H1 D (.lst [])) g2 (upd H D (.lst [])) → HR K g2 H h → H D = some (.lst xs) → VRs K g2 H ys xs → Ext g4 (upd H4 D (.lst [])) g2 (upd H D (.lst [])) → After K W (vr K) σ0 g1 H1 Q (k ys h) → Nx H) :
    ∃ W1 : Nat → Nat → Hp → Prop, (∃ m, W1 0 m H4) ∧ ∀ i m H, W1 i m H →
      (J.stop i H ∧ Nx H) ∨ (J.go i H ∧ ∃ Nx1 : Hp → Prop, (∀ H', Nx1 H' → ∃ k', k' < m ∧ W1 (i + 1) k' H') ∧ ∀ x H', J.yld i H x H' → (tTc K vs t) x (wipe σ vs) H' fun σ3 H5 => wipe σ3 vs = wipe σ vs ∧ (tG K W0 br c) σ3 H5 fun b H6 =>
        if b = true then (tG K W0 (vr K) e) σ3 H6 fun y H7 => ∃ acc, H7 D = some (.lst acc) ∧ acc.length < sizeLine ∧ Nx1 (upd H7 D (.lst (acc ++ [y]))) else Nx1 H6) := by
  let Wd : Nat → Hp → Prop := fun i H => ∃ g2 h2 ys xs, H D = some (.lst xs) ∧ Ext g4 (upd H4 D (.lst [])) g2 (upd H D (.lst [])) ∧ HR K g2 H h2 ∧ VRs K g2 H ys xs ∧ i ≤ s.1.length ∧
    After K W (vr K) σ0 g1 H1 Q ((lcB t c e s (s.1.drop i) ys (wipeL l vs) h2).bind k)
  refine ⟨fun i m H => m = s.1.length - i ∧ Wd i H, ⟨s.1.length, by simp, g4, h4, ys0, xs0, e4, Ext.refl, R4, r4, Nat.zero_le _, by simpa using A0⟩, ?_⟩
  rintro i m H ⟨rfl, g2, h2, ys, xs, eD, E4, R2, r, hil, A⟩
  have E := E0.trans E4
  have hDr : D ∈ g2.r := by rw [E.r]; exact List.mem_cons_self ..
  have hDm : D ∉ g2.m := fun z => R2.dis D z hDr
  have hD4 : D ∈ g4.r := by rw [E0.r]; exact List.mem_cons_self ..
  have hDm4 : D ∉ g4.m := fun z => R4.dis D z hD4
  obtain ⟨tm, em, nm⟩ := E4.m
  have nm : ∀ b ∈ tm, H4 b = none := fun b hb => by
    have q := nm b hb
    have hne : b ≠ D := by rintro rfl; rw [upd_same] at q; cases q
    rw [upd_ne hne] at q
    exact q
  -- but for the list itself all is as before
  have keepX : ∀ b o, b ≠ D → H4 b = some o → b ∉ g4.m → H b = some o := fun b o hne e hb => by
    have q := E4.keep b o (by rw [upd_ne hne]; exact e) hb
    rw [upd_ne hne] at q
    exact q
  -- states and items do not speak of the list
  have R4r := R4.reset (zs := .lst []) hD4 e4 trivial trivial
  have R2r := R2.reset (zs := .lst []) hDr eD trivial trivial
  have S4r : SR K g4 (upd H4 D (.lst [])) l σ := ⟨S4.len, fun i v e => by
    obtain ⟨x, a, b⟩ := S4.at_ i v e
    exact ⟨x, a, b.reset hD4 e4 trivial⟩⟩
  have S2r : SR K g2 (upd H D (.lst [])) l σ := S4r.ext R4r E4
  have back : ∀ {v : Val} {x : V}, VR K g2 (upd H D (.lst [])) v x → VR K g2 H v x := fun {v x} q => by
    have := VR.reset (ds := .lst []) (zs := .lst xs) hDr upd_same trivial q
    rwa [upd_upd, upd_self' eD] at this
  have S2 : SR K g2 H (wipeL l vs) (wipe σ vs) := SR.wipe ⟨S2r.len, fun i v e => by
    obtain ⟨x, a, b⟩ := S2r.at_ i v e
    exact ⟨x, a, back b⟩⟩ vs
  have ES : ExtS g4 H4 g2 H := ⟨⟨tm, em, nm⟩, ⟨[], by rw [E4.r]; rfl, by simp⟩, fun b o e hb => keepX b o (fun z => hb (.inr (by rw [z]; exact hD4))) e fun z => hb (.inl z)⟩
  have SV := sv g2 H h2 ES R2
  cases hd : s.1.drop i with
  | nil =>
    have hle : s.1.length ≤ i := List.drop_eq_nil_iff.mp hd
    rw [hd] at A
    simp only [lcB] at A
    split at A
    · rename_i ok
      exact .inl ⟨(SV ok i).2 (Nat.le_antisymm hil hle), fin g2 H h2 ys xs E R2 eD r E4 A⟩
    · exact A.elim
  | cons v rest =>
    have hlt : i < s.1.length := by
      by_cases q : i < s.1.length
      · exact q
      · rw [List.drop_eq_nil_iff.mpr (by omega)] at hd; cases hd
    have hv : s.1[i]? = some v := by
      have q := congrArg List.head? hd
      rw [List.head?_drop] at q
      simpa using q
    have hr : s.1.drop (i + 1) = rest := by
      have q := congrArg List.tail hd
      rw [List.tail_drop] at q
      simpa using q
    rw [hd] at A
    simp only [lcB] at A
    split at A
    · rename_i ok
      obtain ⟨go, yl⟩ := (SV ok i).1 v hv
      refine .inr ⟨go, Wd (i + 1), fun H' q => ⟨s.1.length - (i + 1), by omega, rfl, q⟩, fun x H' y => ?_⟩
      obtain ⟨E3, R3, rx⟩ := yl x H' y
      refine ⟨g2, wipeL l vs, h2, v, S2.ext R2 E3, R3, rx, ?_⟩
      cases et : t v (wipeL l vs) h2 with
      | exc x l1 h1 => rw [et] at A; exact A
      | fail => rw [et] at A; exact A
      | ok l3 h3 =>
        rw [et] at A
        simp only at A
        intro gb Hb σb Eb Rb Sb wb
        refine ⟨wb.trans (wipe_wipe fun _ hu => hu), gb, l3, h3, Sb, Rb, ?_⟩
        cases ec : c l3 h3 with
        | exc x h1 => rw [ec] at A; exact A.elim
        | fail => rw [ec] at A; exact A.elim
        | ok b h5 =>
          rw [ec] at A
          simp only at A
          intro g5 H5 b' E5 R5 eb
          obtain rfl : b = b' := eb
          have E25 := (E3.trans Eb).trans E5
          have keepD : ∀ {g6 : Gh} {H6 : Hp}, Ext g2 H g6 H6 → H6 D = some (.lst xs) := fun E6 => E6.keep D _ eD hDm
          cases b with
          | false =>
            rw [if_neg Bool.false_ne_true] at A ⊢
            exact ⟨g5, h5, ys, xs, keepD E25, E4.trans (E25.reset hDm eD), R5, r.ext R2 E25, hlt, by rw [hr]; exact A⟩
          | true =>
            rw [if_pos rfl] at A ⊢
            refine ⟨g5, l3, h5, Sb.ext Rb E5, R5, ?_⟩
            cases ee : e l3 h5 with
            | exc x h1 => rw [ee] at A; exact A.elim
            | fail => rw [ee] at A; exact A.elim
            | ok y h6 =>
              rw [ee] at A
              simp only at A
              intro g6 H6 xv E6 R6 rv
              have E26 := E25.trans E6
              have hD6 : D ∈ g6.r := by rw [E26.r]; exact hDr
              have k6 := keepD E26
              split at A
              · rename_i hac
                refine ⟨xs, k6, by rw [← r.length]; exact line_lt hac, g6, h6, ys ++ [y], xs ++ [xv], upd_same, ?_, R6.reset hD6 k6 trivial trivial, ((r.ext R2 E26).append (.one rv)).reset hD6 k6 trivial, hlt, by rw [hr]; exact A⟩
                rw [upd_upd]
                exact E4.trans (E26.reset hDm eD)
              · exact A.elim
    · exact A.elim
theorem bind_assoc' {α β γ : Type} (r : Res α) (f : α → Hv → Res β) (k : β → Hv → Res γ) : (r.bind f).bind k = r.bind fun a h => (f a h).bind k := by
  cases r <;> rfl
theorem lc2_red {W : WX} {fin : List Val → Hv → Res Val} (hfin : FinOk K fin) {vs vs1 : List Nat} {di : DenG Src} {t : Tg} {c : DenG Bool} {di1 : DenG Src} {t1 : Tg} {c1 : DenG Bool} {e : Den} {σ : L2.St} {H : Hp} {Q : VK} (z : tG K W (vr K) (dLc2 fin vs vs1 di t c di1 t1 c1 e) σ H Q) :
    tLc2 (tI K W di) (tTc K vs t) (tG K W0 br c) (tI K W0 di1) (tTc K vs1 t1) (tG K W0 br c1) (tG K W0 (vr K) e) vs vs1 σ H Q := by
  obtain ⟨g, l, h, S, R, A⟩ := z
  refine ⟨g, l, h, S, R, ?_⟩
  unfold dLc2 at A
  unfold AfterI
  cases ed : di l h with
  | exc x h1 => rw [ed] at A; exact A
  | fail => rw [ed] at A; exact A
  | ok s h1 =>
    rw [ed] at A
    simp only [Res.bind_ok] at A
    have ok1 : srcOk s h1 := by
      cases hs1 : s.1 with
      | nil =>
        rw [hs1] at A
        simp only [lc2L] at A
        split at A
        · assumption
        · exact A.elim
      | cons x r =>
        rw [hs1] at A
        simp only [lc2L] at A
        split at A
        · assumption
        · exact A.elim
    refine ⟨ok1, fun g1 H1 J E1 R1 hz sv D nD => ?_⟩
    have A := After.ext E1 A
    have al : ∀ b ∈ g1.r, ∃ o, H1 b = some o := fun b hb => R1.own_there (.inr hb)
    have S1 := S.ext R E1
    -- the new list is put aside
    have ES : ExtS g1 H1 ⟨g1.m, D :: g1.r⟩ (upd H1 D (.lst [])) := ⟨⟨[], by simp, by simp⟩, ⟨[D], rfl, fun b hb => by rw [List.mem_singleton.mp hb]; exact nD⟩, fun b o e hb => by rw [upd_ne (ne_of_none e nD)]; exact e⟩
    have RD : HR K ⟨g1.m, D :: g1.r⟩ (upd H1 D (.lst [])) h1 := by
      refine ⟨R1.len, R1.nd, fun a ha z => ?_, fun a ha => ?_, fun i o a e1 e2 => ?_⟩
      · rcases List.mem_cons.mp z with z | z
        · subst z; exact R1.fresh nD (.inl ha)
        · exact R1.dis a ha z
      · rcases List.mem_cons.mp ha with z | z
        · subst z; exact ⟨_, upd_same, trivial⟩
        · obtain ⟨ob, e, mo⟩ := R1.al a z
          exact ⟨ob, by rw [upd_ne (ne_of_none e nD)]; exact e, mo⟩
      · have q := R1.obj i o a e1 e2
        cases o with
        | lst l => obtain ⟨xs, e, r⟩ := q; exact ⟨xs, by rw [upd_ne (ne_of_none e nD)]; exact e, r.extS R1 ES⟩
        | dic l => obtain ⟨xs, e, r⟩ := q; exact ⟨xs, by rw [upd_ne (ne_of_none e nD)]; exact e, r.1, r.2.extS R1 ES⟩
        | ins c f => obtain ⟨dx, gs, e, r⟩ := q; exact ⟨dx, gs, by rw [upd_ne (ne_of_none e nD)]; exact e, r.1, r.2.extS R1 ES⟩
    let Wd : Nat → Hp → Prop := fun i H => ∃ g2 h2 ys xs, H D = some (.lst xs) ∧ Ext ⟨g1.m, D :: g1.r⟩ (upd H1 D (.lst [])) g2 (upd H D (.lst [])) ∧ HR K g2 H h2 ∧ VRs K g2 H ys xs ∧ i ≤ s.1.length ∧
      After K W (vr K) σ g1 H1 Q ((lc2L t c di1 t1 c1 e vs1 s (s.1.drop i) ys (wipeL l vs) h2).bind fin)
    refine ⟨fun i m H => m = s.1.length - i ∧ Wd i H, ⟨s.1.length, by simp, ⟨g1.m, D :: g1.r⟩, h1, [], [], upd_same, by rw [upd_upd]; exact Ext.refl, RD, VRs.nil, Nat.zero_le _, by simpa using A⟩, ?_⟩
    rintro i m H ⟨rfl, g2, h2, ys, xs, eD, E, R2, r, hil, A⟩
    have hDr : D ∈ g2.r := by rw [E.r]; exact List.mem_cons_self ..
    have hDm : D ∉ g2.m := fun z => R2.dis D z hDr
    obtain ⟨tm, em, nm⟩ := E.m
    have em : g2.m = g1.m ++ tm := em
    have nm : ∀ b ∈ tm, H1 b = none := fun b hb => by
      have q := nm b hb
      have hne : b ≠ D := by rintro rfl; rw [upd_same] at q; cases q
      rw [upd_ne hne] at q
      exact q
    have keep : ∀ b o, H1 b = some o → b ∉ g1.m → H b = some o := fun b o e hb => by
      have hne := ne_of_none e nD
      have q := E.keep b o (by rw [upd_ne hne]; exact e) hb
      rw [upd_ne hne] at q
      exact q
    have E2S : ExtS g1 H1 g2 H := ⟨⟨tm, em, nm⟩, ⟨[D], E.r, fun b hb => by rw [List.mem_singleton.mp hb]; exact nD⟩, fun b o e hb => keep b o e fun z => hb (.inl z)⟩
    have E2 : Ext g1 H1 ⟨g2.m, g1.r⟩ H := ⟨⟨tm, em, nm⟩, rfl, keep, fun b o e => by
      have hne := ne_of_none e nD
      obtain ⟨o', q⟩ := E.there b o (by rw [upd_ne hne]; exact e)
      rw [upd_ne hne] at q
      exact ⟨o', q⟩⟩
    have S2 : SR K g2 H (wipeL l vs) (wipe σ vs) := (S1.extS R1 E2S).wipe vs
    cases hd : s.1.drop i with
    | nil =>
      have hle : s.1.length ≤ i := List.drop_eq_nil_iff.mp hd
      rw [hd] at A
      simp only [lc2L] at A
      split at A
      · rename_i ok
        exact .inl ⟨(sv g2 H h2 E2S R2 ok i).2 (Nat.le_antisymm hil hle), hfin nD al hDr E.r eD E2 R2 r A⟩
      · exact A.elim
    | cons v rest =>
      have hlt : i < s.1.length := by
        by_cases q : i < s.1.length
        · exact q
        · rw [List.drop_eq_nil_iff.mpr (by omega)] at hd; cases hd
      have hv : s.1[i]? = some v := by
        have q := congrArg List.head? hd
        rw [List.head?_drop] at q
        simpa using q
      have hr : s.1.drop (i + 1) = rest := by
        have q := congrArg List.tail hd
        rw [List.tail_drop] at q
        simpa using q
      rw [hd] at A
      simp only [lc2L] at A
      split at A
      · rename_i ok
        obtain ⟨go, yl⟩ := (sv g2 H h2 E2S R2 ok i).1 v hv
        refine .inr ⟨go, Wd (i + 1), fun H' q => ⟨s.1.length - (i + 1), by omega, rfl, q⟩, fun x H' y => ?_⟩
        obtain ⟨E3, R3, rx⟩ := yl x H' y
        refine ⟨g2, wipeL l vs, h2, v, S2.ext R2 E3, R3, rx, ?_⟩
        cases et : t v (wipeL l vs) h2 with
        | exc x l1 h1 => rw [et] at A; exact A
        | fail => rw [et] at A; exact A
        | ok l3 h3 =>
          rw [et] at A
          simp only at A
          intro g4 H4 σ4 E4 R4 S4 w4
          refine ⟨w4.trans (wipe_wipe fun _ hu => hu), g4, l3, h3, S4, R4, ?_⟩
          cases ec : c l3 h3 with
          | exc x h1 => rw [ec] at A; exact A.elim
          | fail => rw [ec] at A; exact A.elim
          | ok b h5 =>
            rw [ec] at A
            simp only at A
            intro g5 H5 b' E5 R5 eb
            obtain rfl : b = b' := eb
            have E25 := (E3.trans E4).trans E5
            have keepD : ∀ {g6 : Gh} {H6 : Hp}, Ext g2 H g6 H6 → H6 D = some (.lst xs) := fun E6 => E6.keep D _ eD hDm
            cases b with
            | false =>
              rw [if_neg Bool.false_ne_true] at A ⊢
              exact ⟨g5, h5, ys, xs, keepD E25, E.trans (E25.reset hDm eD), R5, r.ext R2 E25, hlt, by rw [hr]; exact A⟩
            | true =>
              rw [if_pos rfl] at A ⊢
              refine ⟨g5, l3, h5, S4.ext R4 E5, R5, ?_⟩
              cases ei : di1 l3 h5 with
              | exc x h1 => rw [ei] at A; exact A.elim
              | fail => rw [ei] at A; exact A.elim
              | ok s1 h6 =>
                rw [ei] at A
                simp only at A
                have ok6 : srcOk s1 h6 := by
                  cases hs1 : s1.1 with
                  | nil =>
                    rw [hs1] at A
                    simp only [lcB] at A
                    split at A
                    · assumption
                    · exact A.elim
                  | cons x r =>
                    rw [hs1] at A
                    simp only [lcB] at A
                    split at A
                    · assumption
                    · exact A.elim
                refine ⟨ok6, fun g6 H6 J1 E6 R6 hz1 sv1 => ?_⟩
                have E26 := E25.trans E6
                have k6 := keepD E26
                have S6 := (S4.ext R4 E5).ext R5 E6
                refine lc_inner (k := fun acc' h4 => (lc2L t c di1 t1 c1 e vs1 s rest acc' (wipeL l vs) h4).bind fin) R1 nD (E.trans (E26.reset hDm eD)) R6 k6 (r.ext R2 E26) S6 sv1 ok6 (by rw [← bind_assoc']; exact A) fun g7 H7 h7 ys7 xs7 E7 R7 e7 r7 E67 A7 => ?_
                exact ⟨g7, h7, ys7, xs7, e7, E7, R7, r7, hlt, by rw [hr]; exact A7⟩
      · exact A.elim
end
section
variable {X : Cx} {W : WX}
theorem ge_lc2 {fin : List Val → Hv → Res Val} (hfin : FinOk X.K fin) {elt tg iter tg1 iter1 : Expr} {ifs ifs1 : List Expr} {scope : Scope} (own : List (Str × Nat)) (vs1 : List Nat) {pos : Pos} {di di1 : DenG Src} {t t1 : Tg} {c c1 : DenG Bool} {e : Den} (hc : X.calm = true) (hN : X.N.Nodup) (hi : GI X W tg iter di)
    (hg : ∀ (s : Shared) (H : Hp) (C : Addr) (cl : List (Str × Addr)) (fp : List Addr), GC (X.blk s H scope (compEnvC scope cl C X.env) fp) (own.map (·.2)) tg t) (ht : ∀ (s : Shared) (H : Hp) (C : Addr) (cl : List (Str × Addr)) (fp : List Addr), GTs (X.blk s H scope (compEnvC scope cl C X.env) fp) W0 ifs c)
    (hi1 : ∀ (s : Shared) (H : Hp) (C : Addr) (cl : List (Str × Addr)) (fp : List Addr), GI (X.blk s H scope (compEnvC scope cl C X.env) fp) W0 tg1 iter1 di1)
    (hg1 : ∀ (s : Shared) (H : Hp) (C : Addr) (cl : List (Str × Addr)) (fp : List Addr), GC (X.blk s H scope (compEnvC scope cl C X.env) fp) vs1 tg1 t1) (ht1 : ∀ (s : Shared) (H : Hp) (C : Addr) (cl : List (Str × Addr)) (fp : List Addr), GTs (X.blk s H scope (compEnvC scope cl C X.env) fp) W0 ifs1 c1)
    (he : ∀ (s : Shared) (H : Hp) (C : Addr) (cl : List (Str × Addr)) (fp : List Addr), GE (X.blk s H scope (compEnvC scope cl C X.env) fp) W0 elt e) (hv : ∀ i ∈ vs1, i ∈ own.map (·.2) := by decide) (ok : blkC X.N X.env.scope scope own = true := by first | rfl | decide +kernel) (hs : ∀ x, foldedSetIterable iter X.env x = pure x := by intro _; rfl) (hs1 : ∀ env x, foldedSetIterable iter1 env x = pure x := by intro _ _; rfl) :
    GE X W (.ListComp elt [⟨tg, iter, ifs, 0⟩, ⟨tg1, iter1, ifs1, 0⟩] scope pos) (dLc2 fin (own.map (·.2)) vs1 di t c di1 t1 c1 e) :=
  PE.imp (pe_lc2 (g := tTc X.K (own.map fun p : Str × Nat => p.2) t) (tt := tG X.K W0 br c) (wi1 := tI X.K W0 di1) (g1 := tTc X.K vs1 t1) (tt1 := tG X.K W0 br c1) (te := tG X.K W0 (vr X.K) e) hc hN hi (blkOk_by ok) hv hg ht hi1 hg1 ht1 he hs hs1) fun σ H Q z => lc2_red hfin z
theorem gs_setLc2 {fin : List Val → Hv → Res Val} (hfin : FinOk X.K fin) (i : Nat) {y : Str} {py : Pos} {elt tg iter tg1 iter1 : Expr} {ifs ifs1 : List Expr} {scope : Scope} (own : List (Str × Nat)) (vs1 : List Nat) {pos spos : Pos} {di di1 : DenG Src} {t t1 : Tg} {c c1 : DenG Bool} {e : Den} (hc : X.calm = true) (hN : X.N.Nodup) (hi : GI X W tg iter di)
    (hg : ∀ (s : Shared) (H : Hp) (C : Addr) (cl : List (Str × Addr)) (fp : List Addr), GC (X.blk s H scope (compEnvC scope cl C X.env) fp) (own.map (·.2)) tg t) (ht : ∀ (s : Shared) (H : Hp) (C : Addr) (cl : List (Str × Addr)) (fp : List Addr), GTs (X.blk s H scope (compEnvC scope cl C X.env) fp) W0 ifs c)
    (hi1 : ∀ (s : Shared) (H : Hp) (C : Addr) (cl : List (Str × Addr)) (fp : List Addr), GI (X.blk s H scope (compEnvC scope cl C X.env) fp) W0 tg1 iter1 di1)
    (hg1 : ∀ (s : Shared) (H : Hp) (C : Addr) (cl : List (Str × Addr)) (fp : List Addr), GC (X.blk s H scope (compEnvC scope cl C X.env) fp) vs1 tg1 t1) (ht1 : ∀ (s : Shared) (H : Hp) (C : Addr) (cl : List (Str × Addr)) (fp : List Addr), GTs (X.blk s H scope (compEnvC scope cl C X.env) fp) W0 ifs1 c1)
    (he : ∀ (s : Shared) (H : Hp) (C : Addr) (cl : List (Str × Addr)) (fp : List Addr), GE (X.blk s H scope (compEnvC scope cl C X.env) fp) W0 elt e) (hy : X.N[i]? = some y := by rfl) (hyl : X.env.scope.names.lookup y = some .local := by rfl) (hsw : swapsWith (.ListComp elt [⟨tg, iter, ifs, 0⟩, ⟨tg1, iter1, ifs1, 0⟩] scope pos) (some (.Name y py)) spos.line X.env = pure true := by exact sw_true rfl rfl rfl (by decide +kernel)) (hv : ∀ i ∈ vs1, i ∈ own.map (·.2) := by decide) (ok : blkC X.N X.env.scope scope own = true := by first | rfl | decide +kernel) (hs : ∀ x, foldedSetIterable iter X.env x = pure x := by intro _; rfl) (hs1 : ∀ env x, foldedSetIterable iter1 env x = pure x := by intro _ _; rfl) :
    GS X W (.Assign [.Name y py] (.ListComp elt [⟨tg, iter, ifs, 0⟩, ⟨tg1, iter1, ifs1, 0⟩] scope pos) spos) (sAsg (dLc2 fin (own.map (·.2)) vs1 di t c di1 t1 c1 e) (gName i)) := by
  refine PS.imp (ps_setLc2 (g := tTc X.K (own.map fun p : Str × Nat => p.2) t) (tt := tG X.K W0 br c) (wi1 := tI X.K W0 di1) (g1 := tTc X.K vs1 t1) (tt1 := tG X.K W0 br c1) (te := tG X.K W0 (vr X.K) e) hc hN hy hyl hsw hi (blkOk_by ok) hv hg ht hi1 hg1 ht1 he hs hs1) fun D σ H ⟨g, l, h, S, R, A⟩ => ?_
  refine lc2_red hfin ?_
  refine tG_to S R A fun v h1 g1 H1 x E S1 R1 r1 A1 => ?_
  exact A1 g1 H1 _ Ext.refl R1 (S1.set i r1)
end
end GH
set_option Elab.async false
set_option linter.all false
set_option maxRecDepth 100000
set_option maxHeartbeats 1000000
set_option autoImplicit false
/-! t[:0:-1] of a tuple. -/
namespace HT
open PySem PySem.Spec PyProof.Rows
section
variable {prog : Program} {w : World} {A : Around} {E : Value → Shared → Prop} {s : Shared}
theorem gh_adjust (n : Nat) : Builtin.Slice.sliceAdjust none (some 0) (-1) (n : Int) = ((n : Int) - 1, if n = 0 then -1 else 0) := by
  unfold Builtin.Slice.sliceAdjust
  cases n with
  | zero => rfl
  | succ n =>
    refine Prod.ext ?_ ?_
    · simp
    · simp
      omega
theorem gh_places (n : Nat) : Builtin.Slice.slicePlaces ((n : Int) - 1) (if n = 0 then -1 else 0) (-1) = n - 1 := by
  unfold Builtin.Slice.slicePlaces
  cases n with
  | zero => rfl
  | succ n =>
    simp
    omega
theorem gh_applied {sl : Addr} {vl vu vs : Value} {n : Nat} {Q : Int × Int × Nat → Shared → Prop} (hs : s.heap.IsSliceOf sl vl vu vs) (pl : IsPart vl none) (pu : IsPart vu (some 0)) (ps : IsPart vs (some (-1)))
    (h : Q ((n : Int) - 1, -1, n - 1) s) : wpAny (model prog w) A (Builtin.Slice.sliceApplied (.ref sl) (pure (n : Int))) Q E s := by
  obtain ⟨os, hos, hcs, hds⟩ := id hs
  unfold Builtin.Slice.sliceApplied Builtin.Slice.sliceFields
  refine wpAny_bind (wpAny_bind (wpAny_field hos hds (x := vl) rfl (wpAny_bind (wpAny_field hos hds (x := vu) rfl (wpAny_bind (wpAny_field hos hds (x := vs) rfl (wpAny_pure ?_)))))))
  refine wpAny_bind (slicePart_ ps ?_)
  show wpAny _ _ (if ((-1 : Int) == 0) = true then _ else _) _ _ s
  rw [if_neg (by decide)]
  refine wpAny_bind (slicePart_ pl (wpAny_bind (slicePart_ pu (wpAny_bind (wpAny_pure ?_)))))
  show wpAny _ _ (match Builtin.Slice.sliceAdjust none (some 0) (-1) (n : Int) with | (lo, hi) => pure (lo, (-1 : Int), Builtin.Slice.slicePlaces lo hi (-1))) _ _ s
  rw [gh_adjust n]
  show wpAny _ _ (pure ((n : Int) - 1, (-1 : Int), Builtin.Slice.slicePlaces ((n : Int) - 1) (if n = 0 then -1 else 0) (-1))) _ _ s
  rw [gh_places]
  exact wpAny_pure h
theorem gh_pick_list (xs : List Value) : ((List.range (xs.length - 1)).filterMap fun (m : Nat) => xs[(((xs.length : Nat) : Int) - 1 + (m : Int) * -1).toNat]?) = (xs.drop 1).reverse := by
  have gen : ∀ k, k ≤ xs.length - 1 → ((List.range k).filterMap fun (m : Nat) => xs[(((xs.length : Nat) : Int) - 1 + (m : Int) * -1).toNat]?) = (xs.drop (xs.length - k)).reverse := by
    intro k
    induction k with
    | zero => intro _; simp
    | succ k ih =>
      intro hk
      rw [List.range_succ, List.filterMap_append, ih (by omega)]
      have e : (((xs.length : Nat) : Int) - 1 + (k : Int) * -1).toNat = xs.length - (k + 1) := by omega
      have hlt : xs.length - (k + 1) < xs.length := by omega
      simp only [List.filterMap_cons, e, List.getElem?_eq_getElem hlt, List.filterMap_nil]
      have d := List.drop_eq_getElem_cons hlt
      rw [d, show xs.length - (k + 1) + 1 = xs.length - k by omega]
      simp
  have := gen (xs.length - 1) (Nat.le_refl _)
  rw [this]
  cases xs with
  | nil => rfl
  | cons a l => simp
theorem gh_pick (xs : Array Value) : ((List.range (xs.size - 1)).filterMap fun (m : Nat) => xs[((xs.size : Int) - 1 + (m : Int) * -1).toNat]?).toArray = ((xs.toList.drop 1).reverse).toArray := by
  have := gh_pick_list xs.toList
  simp only [Array.length_toList, Array.getElem?_toList] at this
  rw [this]
theorem gh_getItem {t sl : Addr} {items : Array Value} {vl vu vs : Value} {Q : Value → Shared → Prop} (ht : IsTup s.heap t items) (hs : s.heap.IsSliceOf sl vl vu vs) (pl : IsPart vl none) (pu : IsPart vu (some 0)) (ps : IsPart vs (some (-1)))
    (h : Q (.ref s.heap.objs.size) { s with heap := s.heap.push { cls := .type "tuple", data := .seq ((items.toList.drop 1).reverse).toArray } })
    (hsz : items.size ≤ sizeLine) : wpAny (model prog w) A (getItem (.ref t) (.ref sl)) Q E s := by
  have htake : sizeOk (.seq ((items.toList.drop 1).reverse).toArray) := by
    show ((items.toList.drop 1).reverse).toArray.size ≤ sizeLine
    rw [List.size_toArray, List.length_reverse, List.length_drop, Array.length_toList]
    omega
  obtain ⟨os, hos, hcs, hds⟩ := id hs
  have hTs : s.TypeIs (.ref sl) "slice" := ⟨os, hos, hcs⟩
  unfold getItem
  try with_reducible refine wpAny_holding ?_
  first | refine wpAny_bind (wpAny_pure ?_) | skip
  refine wpAny_bind (wpAny_sequenceKey ht.typeIs (by decide) ?_)
  refine wpAny_bind (wpAny_callSpecial?_slot (name := Str.ofString "__getitem__") ht.typeIs PyProof.Rows.slot_tuple_getitem
    (wpAny_call_entry PyProof.Rows.slot_tuple_getitem ht.typeIs entry_tuple_getitem ?_ (args_tuple_getitem _ _)))
  show wpAny _ _ (Builtin.Tuple.tupleItemsOf (.ref t) >>= _) _ _ s
  refine wpAny_bind (tupleItemsOf_ ht ?_)
  refine wpAny_bind (wpAny_typeOf hTs ?_)
  rw [if_pos (by decide)]
  refine wpAny_bind (gh_applied hs pl pu ps ?_)
  have hno : ¬ ((((items.size : Int) - 1) == 0 && (-1 : Int) == 1 && (items.size - 1) == items.size) = true) := by
    intro q
    rw [Bool.and_eq_true, Bool.and_eq_true] at q
    exact absurd (eq_of_beq q.1.2) (by decide)
  show wpAny _ _ (if (((items.size : Int) - 1) == 0 && (-1 : Int) == 1 && (items.size - 1) == items.size) = true then _ else _) _ _ s
  rw [if_neg hno, gh_pick]
  first
    | exact wpAny_bind (m := Builtin.Tuple.tupleExact _) (wpAny_newObj_type (wpAny_pure ⟨_, rfl, wpAny_pure h⟩) htake)
    | exact wpAny_bind (m := Builtin.Tuple.tupleExact _) (wpAny_newObj_type (wpAny_bind (wpAny_pure (wpAny_pure ⟨_, rfl, wpAny_pure h⟩))) htake)
    | exact wpAny_bind (wpAny_bind (m := Builtin.Tuple.tupleExact _) (wpAny_newObj_type (wpAny_pure (wpAny_pure ⟨_, rfl, wpAny_pure h⟩)) htake))
    | exact wpAny_bind (wpAny_bind (m := Builtin.Tuple.tupleExact _) (wpAny_newObj_type (wpAny_pure ⟨_, rfl, wpAny_pure h⟩) htake))
end
end HT
namespace GH
open PySem PySem.Spec PyProof.Rows L2
section
variable {X : Cx} {W : WX}
def vBack (v : Val) (h : Hv) : Res Val := match v with
  | .tup l => .ok (.tup (l.drop 1).reverse) h
  | _ => .fail
def tBack (K : PySem.W.Frag) (te : TE) : TE := fun σ H Q => te σ H fun x H1 => ∃ a xs, x = .ref a ∧ SqT K H1 a xs ∧ ∀ p, H1 p = none → Q (.ref p) (upd H1 p (.tup (xs.drop 1).reverse))
theorem pe_back {e : Expr} {te : TE} {k k0 : Nat} {p0 p1 p2 p3 pos : Pos} (he : PE X e te) : PE X (.Subscript e (.Slice none (some (.Constant (.int 0) k0 p0)) (some (.UnaryOp .USub (.Constant (.int 1) k p1) p2)) p3) pos) (tBack X.K te) := by
  refine ⟨fun pins s σ H Q I h => ?_⟩
  refine Subscript_ (thn (he.run pins s σ H _ I h) fun v s1 ⟨x, H1, I1, r1, q1⟩ => ?_)
  obtain ⟨a, xs, ex, hx, q⟩ := q1
  subst ex
  cases r1
  have hst : PO X (some (.UnaryOp .USub (.Constant (.int 1) k p1) p2)) (tPart (tUn (rU fun i => .int (-i)) (tC (.int 1)))) := po_some (pe_un un_neg pe_int)
  have hup : PO X (some (.Constant (.int 0) k0 p0)) (tPart (tC (.int 0))) := po_some pe_int
  refine wpAny_Slice (thn (po_none.run pins s1 σ H1 (fun o H2 => o = none ∧ H2 = H1) I1 ⟨rfl, rfl⟩) fun vl s2 ⟨l, H2, I2, pl, el, e2⟩ => ?_)
  subst el e2
  refine thn (hup.run pins s2 σ H2 (fun o H3 => o = some 0 ∧ H3 = H2) I2 ⟨0, rfl, rfl, rfl⟩) fun vu s3 ⟨u, H3, I3, pu, eu, e3⟩ => ?_
  subst eu e3
  refine thn (hst.run pins s3 σ H3 (fun o H4 => o = some (-1) ∧ H4 = H3) I3 ⟨1, rfl, -1, rfl, rfl, rfl⟩) fun vs s4 ⟨o, H4, I4, ps, eo, e4⟩ => ?_
  subst eo e4
  have I5 : Inv X pins σ H4 { s4 with heap := s4.heap.push { cls := .type "slice", data := .fields #[vl, vu, vs] } } := I4.kept (t' := s4.toks) fun b ob q => Heap.get?_push_of_some _ q
  obtain ⟨its, r, ht, hz⟩ := I5.tuple hx
  have hlen := r.length
  refine tail_any (ops := [.ref a, .ref s4.heap.objs.size]) ht.typeIs (PyProof.Rows.slot_tuple_getitem.lookup) ?_ (by with_unfolding_all rfl)
  refine HT.gh_getItem ht (Heap.IsSliceOf.new _ vl vu vs) pl pu ps ?_ (by rw [List.size_toArray]; omega)
  refine ⟨.ref _, _, I5.laid (t' := s4.toks) (o := .tup (xs.drop 1).reverse) (fun b ob q => Heap.get?_push_of_some _ q) (Nat.le_refl _) ?_, rfl, q _ (I5.hok.fresh (Nat.le_refl _))⟩
  exact ⟨by rw [List.length_reverse, List.length_drop]; omega, _, (r.drop 1).reverse, IsTup.new _ _⟩
theorem ge_back {e : Expr} {d : Den} {k k0 : Nat} {p0 p1 p2 p3 pos : Pos} (he : GE X W e d) : GE X W (.Subscript e (.Slice none (some (.Constant (.int 0) k0 p0)) (some (.UnaryOp .USub (.Constant (.int 1) k p1) p2)) p3) pos) (dFn vBack d) := by
  refine PE.imp (pe_back he) fun σ H Q ⟨g, l, h, S, R, A⟩ => ?_
  refine tG_of S R A fun v h1 g1 H1 x E S1 R1 r1 A1 => ?_
  unfold vBack at A1
  split at A1
  · have r1 : VR X.K g1 H1 (.tup _) x := r1
    simp only [VR] at r1
    obtain ⟨a, xs, rfl, hq, rs⟩ := r1
    refine ⟨a, xs, rfl, hq, fun p np => ?_⟩
    obtain ⟨E4, R4⟩ := R1.grow (o := .tup (xs.drop 1).reverse) np
    refine A1 g1 _ (.ref p) E4 R4 ?_
    simp only [VR]
    exact ⟨p, _, rfl, SqT.of upd_same, ((rs.drop 1).reverse).ext R1 E4⟩
  · exact A1.elim
end
end GH
set_option Elab.async false
set_option linter.all false
set_option maxRecDepth 100000
set_option maxHeartbeats 4000000
set_option autoImplicit false
/-! sets of texts: made of a tuple or a list, walked, sorted. -/
namespace GH
open PySem PySem.Spec PyProof.Rows L2
def keyS (e : Int × Value) : Str := match e.2 with | .str k _ => k | _ => Str.empty
def GoodS (w : World) (e : Int × Value) : Prop := ∃ k tk, e.2 = Value.str k tk ∧ e.1 = hashStr w k
/-- the set of texts at a, its members L -/
def SetS (w : World) (h : Heap) (a : Addr) (L : List Str) : Prop :=
  ∃ o es ep t, h.get? a = some o ∧ o.ExactSet ∧ o.data = .set es ep t ∧ (∀ e ∈ es.toList, GoodS w e) ∧ (es.toList.map keyS).Perm L ∧ L.Nodup ∧
    es.size < scanBound ∧ t.fits es.size = true ∧ Ris t.place.toList ∧ (w.params.followText "set-order" = true ∨ t.led = true)
def addS (L : List Str) (k : Str) : List Str := if k ∈ L then L else L ++ [k]
def ddS (xs : List Str) : List Str := xs.foldl addS []
section
variable {P : Program} {w : World} {h h' : Heap} {a : Addr} {L : List Str}
theorem SetS.at (R : SetS w h a L) (k : ∀ o, h.get? a = some o → h'.get? a = some o) : SetS w h' a L := by
  obtain ⟨o, es, ep, t, ho, r⟩ := R
  exact ⟨o, es, ep, t, k o ho, r⟩
theorem goodS_elems {l : List (Int × Value)} (g : ∀ e ∈ l, GoodS w e) : ElemsOf (PySem.strKind P w) l := fun e he => by
  obtain ⟨k, tk, h1, h2⟩ := g e he
  exact ⟨⟨k, by rw [h1]; exact strKind_is P w k tk, h2⟩, by rw [h1] <;> rfl⟩
theorem goodS_is {e : Int × Value} (g : GoodS w e) (k : Str) : (PySem.strKind P w).is k e.2 = true ↔ keyS e = k := by
  obtain ⟨k0, tk, h1, _⟩ := g
  unfold keyS
  rw [h1]
  constructor
  · intro z
    exact (PySem.strKind P w).inj (.str k0 tk) k0 k (strKind_is P w k0 tk) z
  · rintro rfl
    exact strKind_is P w k0 tk
theorem goodS_mem {l : List (Int × Value)} (g : ∀ e ∈ l, GoodS w e) (k : Str) : k ∈ l.map keyS ↔ ∃ e ∈ l, (PySem.strKind P w).is k e.2 = true := by
  rw [List.mem_map]
  constructor
  · rintro ⟨e, he, q⟩
    exact ⟨e, he, (goodS_is (g e he) k).2 q⟩
  · rintro ⟨e, he, q⟩
    exact ⟨e, he, (goodS_is (g e he) k).1 q⟩
theorem addS_nodup {k : Str} (nd : L.Nodup) : (addS L k).Nodup := by
  unfold addS
  split
  · exact nd
  · rename_i c
    refine List.nodup_append.mpr ⟨nd, by simp, fun x hx y hy => ?_⟩
    rw [List.mem_singleton.mp hy]
    rintro rfl
    exact c hx
end
section
variable {P : Program} {w : World} {A : Around} {E : Value → Shared → Prop} {s : Shared} {a : Addr} {L : List Str}
theorem setS_add_tail {g : Bool → Sem Unit} (hg : ∀ (b : Bool) (s₁ : Shared) (Q' : Unit → Shared → Prop), Q' () s₁ → wpAny (model P w) A (g b) Q' E s₁)
    {o : Obj} {es : Array (Int × Value)} {ep : Nat} {t : SetTable} (ho : s.heap.get? a = some o) (hex : o.ExactSet) (hd : o.data = .set es ep t)
    {es1 : Array (Int × Value)} {t2 : SetTable} (g1 : ∀ e ∈ es1.toList, GoodS w e) (p1 : (es1.toList.map keyS).Perm L) (nd1 : L.Nodup)
    (hb1 : es1.size < scanBound) (hf2 : t2.fits es1.size = true) (hr : Ris t2.place.toList) (hl : w.params.followText "set-order" = true ∨ t2.led = true) {wasDummy : Bool} {R : Option Bool → Shared → Prop}
    (hR : ∀ h', Heap.SameBut a s.heap h' → SetS w h' a L → R (some true) { s with heap := h' }) :
    wpAny (model P w) A (do
        storeSet a es1 t2
        if (!wasDummy && t2.tooFull) = true then do
            g (relayAll t2 es1 (SetTable.grown es1.size)).2.2
            storeSet a (relayAll t2 es1 (SetTable.grown es1.size)).1 (relayAll t2 es1 (SetTable.grown es1.size)).2.1
            pure (some true)
          else pure (some true)) R E s := by
  refine wpAny_bind (wpAny_storeSet_of ho hd ?_ (fits_of_scanBound hb1))
  have ho1 := store_at (es' := es1) (t' := t2) ho hd
  have sb1 := Heap.SameBut.update s.heap a (Obj.putSet es1 t2)
  split
  · have pm := relayAll_perm t2 es1 (SetTable.grown es1.size)
    have hf3 := relayAll_fits t2 es1 (SetTable.grown es1.size)
    have hr3 := relayAll_ris t2 es1 (SetTable.grown es1.size)
    have hl3 := relayAll_led t2 es1 (SetTable.grown es1.size)
    generalize relayAll t2 es1 (SetTable.grown es1.size) = Z at pm hf3 hr3 hl3 ⊢
    obtain ⟨es2, t3, gave⟩ := Z
    dsimp only at pm hf3 hr3 hl3 ⊢
    have hsz : es2.size = es1.size := by rw [← Array.length_toList, pm.length_eq, Array.length_toList]
    have hb2 : es2.size < scanBound := by rw [hsz]; exact hb1
    refine wpAny_bind (hg _ _ _ ?_)
    refine wpAny_bind (wpAny_storeSet_of ho1 rfl ?_ (fits_of_scanBound hb2))
    have ho2 := store_at (es' := es2) (t' := t3) ho1 rfl
    refine wpAny_pure (hR _ (sb1.trans (Heap.SameBut.update _ a _)) ?_)
    exact ⟨_, es2, _, t3, ho2, hex, rfl, fun e he => g1 e (pm.mem_iff.mp he), (pm.map keyS).trans p1, nd1, hb2, hf3, hr3, hl.imp id fun z => by rw [hl3]; exact z⟩
  · exact wpAny_pure (hR _ sb1 ⟨_, es1, _, t2, ho1, hex, rfl, g1, p1, nd1, hb1, hf2, hr, hl⟩)
theorem setS_add_hashed {k : Str} {tk : Tok} {Q : Bool → Shared → Prop} (R : SetS w s.heap a L) (room : L.length + 1 < scanBound)
    (hQ : ∀ h' b, Heap.SameBut a s.heap h' → SetS w h' a (addS L k) → Q b { s with heap := h' }) :
    wpAny (model P w) A (setAddHashed a (.str k tk) (hashStr w k)) Q E s := by
  obtain ⟨o, es, ep, t, ho, hex, hd, g, pL, nd, hb, hf, hr, hl⟩ := R
  have hkey : (PySem.strKind P w).is k (.str k tk) = true := strKind_is P w k tk
  have hsc : (Value.str k tk).scannable = true := rfl
  have hel : ElemsOf (PySem.strKind P w) es.toList := goodS_elems g
  unfold setAddHashed setAddHashedIn
  refine wpAny_holding (wpAny_bind (wpAny_setState_of ho hd hf ?_))
  dsimp only
  rw [byScan_of hsc hb hel]
  simp only [↓reduceIte]
  unfold setAddByScan
  refine wpAny_bind ?_
  refine wpAny_bind (wpAny_rule ?_)
  refine wpAny_bind (wpAny_setScan_of (knd := PySem.strKind P w) (k := k) hkey ho hd hf hel ?_)
  cases hfi : List.findIdx? (fun e => (PySem.strKind P w).is k e.2) es.toList with
  | some j =>
    dsimp only
    obtain ⟨hj, pj, _⟩ := List.findIdx?_eq_some_iff_getElem.mp hfi
    have hk : k ∈ L := pL.mem_iff.mp ((goodS_mem (P := P) (w := w) g k).2 ⟨es.toList[j], List.getElem_mem hj, pj⟩)
    refine wpAny_pure (wpAny_pure ?_)
    exact hQ s.heap _ (Heap.SameBut.refl a s.heap) (by unfold addS; rw [if_pos hk]; exact ⟨o, es, ep, t, ho, hex, hd, g, pL, nd, hb, hf, hr, hl⟩)
  | none =>
    dsimp only
    have hnk : k ∉ L := fun z => by
      obtain ⟨e, he, q⟩ := (goodS_mem (P := P) (w := w) g k).1 (pL.mem_iff.mpr z)
      have c := List.findIdx?_eq_none_iff.mp hfi e he
      rw [q] at c
      cases c
    have hgw : ∀ (b : Bool) {s₁ : Shared} {Q' : Unit → Shared → Prop}, Q' () s₁ → wpAny (model P w) A (match b with | true => rule "set.scan.the-table-gave-way" | false => pure ()) Q' E s₁ :=
      fun b s₁ Q' q => by cases b <;> first | exact wpAny_pure q | exact wpAny_rule q
    have pm := layNew_perm t es (hashStr w k) (.str k tk)
    have hf1 := layNew_fits t es (hashStr w k) (.str k tk)
    have hr1 := layNew_ris t es (hashStr w k) (.str k tk) hr
    have hl1 := layNew_led t es (hashStr w k) (.str k tk)
    generalize layNew t es (hashStr w k) (.str k tk) = Z at pm hf1 hr1 hl1 ⊢
    obtain ⟨es1, t1, wasDummy, gave⟩ := Z
    dsimp only at pm hf1 hr1 hl1 ⊢
    rw [Array.toList_push] at pm
    have pc : es1.toList.Perm ((hashStr w k, Value.str k tk) :: es.toList) := pm.trans (List.perm_append_singleton _ _)
    have pk : (es1.toList.map keyS).Perm (addS L k) := by
      unfold addS
      rw [if_neg hnk]
      exact (pc.map keyS).trans (List.Perm.trans (List.Perm.cons _ pL) (List.perm_append_singleton _ _).symm)
    have g1 : ∀ e ∈ es1.toList, GoodS w e := fun e he => by
      rcases List.mem_cons.mp (pc.mem_iff.mp he) with z | z
      · rw [z]; exact ⟨k, tk, rfl, rfl⟩
      · exact g e z
    have nd1 : (addS L k).Nodup := addS_nodup nd
    have hLs : es.size = L.length := by rw [← pL.length_eq, List.length_map, Array.length_toList]
    have hsz : es1.size = L.length + 1 := by rw [← Array.length_toList, pc.length_eq, List.length_cons, Array.length_toList, hLs]
    have hb1 : es1.size < scanBound := by rw [hsz]; exact room
    have hled : w.params.followText "set-order" = true ∨ t1.led = true := hl.imp id fun z => by rw [hl1]; exact z
    refine wpAny_bind (hgw _ ?_)
    split
    · refine wpAny_bind ?_
      rw [hashByValue_scannable 8 hsc]
      refine wpAny_pure ?_
      refine setS_add_tail ?_ ho hex hd g1 pk nd1 hb1 ?_ ?_ ?_ ?_
      · intro b s₁ Q' q; cases b <;> first | exact wpAny_pure q | exact wpAny_rule q
      · first | (split <;> first | exact hf1 | exact SetTable.fits_plain_off hf1) | exact hf1
      · first | (split <;> exact hr1) | exact hr1
      · first | (split <;> exact hled) | exact hled
      · intro h' sb r; dsimp only; exact wpAny_pure (hQ h' _ sb r)
    · refine wpAny_bind (wpAny_pure ?_)
      simp only [↓reduceIte]
      refine setS_add_tail ?_ ho hex hd g1 pk nd1 hb1 hf1 hr1 hled ?_
      · intro b s₁ Q' q; cases b <;> first | exact wpAny_pure q | exact wpAny_rule q
      · intro h' sb r; dsimp only; exact wpAny_pure (hQ h' _ sb r)
theorem setS_new_at {h : Heap} (ho : h.get? a = some { cls := .type "set", dict := none, data := .set #[] 0 (.fresh 0 0 (!w.params.followText "set-order")) }) : SetS w h a [] :=
  ⟨_, #[], 0, _, ho, ⟨rfl, rfl, rfl⟩, rfl, (fun e he => by simp at he), List.Perm.refl _, List.nodup_nil, (by decide), (by rfl), List.Pairwise.nil, by
    show _ ∨ (!w.params.followText "set-order") = true
    cases w.params.followText "set-order"
    · exact .inr rfl
    · exact .inl rfl⟩
theorem addS_len (L : List Str) (k : Str) : (addS L k).length ≤ L.length + 1 := by
  unfold addS
  split
  · omega
  · simp
theorem ddS_len_aux : ∀ (xs L : List Str), (xs.foldl addS L).length ≤ L.length + xs.length
  | [], L => by simp
  | x :: xs, L => by
    have := ddS_len_aux xs (addS L x)
    have := addS_len L x
    simp only [List.foldl_cons, List.length_cons]
    omega
theorem ddS_len (xs : List Str) : (ddS xs).length ≤ xs.length := by
  have := ddS_len_aux xs []
  simpa [ddS] using this
theorem set_update_txt {I : Addr} {fp wr : List Addr} {G : Array GenState → Array GenState → Prop} {n : Nat} {Pv : Nat → Value → Prop} {St : Nat → Shared → Prop} {R : Result → Shared → Prop}
    (W : WalksS P w A.in1 I fp wr G n Pv St) (S : Addr) (hSf : S ∉ fp) (ns : List Str) (hn : n = ns.length) (hb : ns.length + 1 < scanBound) (hval : ∀ i v, Pv i v → ∃ k t, ns[i]? = some k ∧ v = .str k t) :
    ∀ (k i : Nat) (s : Shared), n - i = k → i ≤ n → St i s → SetS w s.heap S (ddS (ns.take i)) →
      (∀ s', Moved (S :: wr) G s s' → SetS w s'.heap S (ddS ns) → R (.ok (.ret .none)) s') →
      codeAny (model P w) A (.builtin "set.update.loop" ⟨[.ref S, .ref I], []⟩) R s := by
  have hSw : S ∉ wr := fun h => hSf (W.sub _ h)
  have hsub : ∀ b ∈ wr, b ∈ S :: wr := fun b hb => List.mem_cons_of_mem _ hb
  intro k
  induction k with
  | zero =>
    intro i s hk' hi hst hS hR
    have hin : i = n := by omega
    subst hin
    refine codeAny_builtin F.entry_set_update_loop ?_
    rw [Around.under_plainId F.plain_set_update_loop _]
    show wpAny _ A.in1 (pyNext (.ref I) >>= _) _ _ s
    refine wpAny_bind (W.done s _ _ hst fun s' hm => ?_)
    show wpAny _ A.in1 (ret Value.none) _ _ s'
    have e : ns.take i = ns := List.take_of_length_le (by omega)
    rw [e] at hS
    exact wpAny_pure (hR s' (hm.mono hsub) (hS.at fun o e => hm.heap S o hSw e))
  | succ k ih =>
    intro i s hk' hi hst hS hR
    have hlt : i < n := by omega
    refine codeAny_builtin F.entry_set_update_loop ?_
    rw [Around.under_plainId F.plain_set_update_loop _]
    show wpAny _ A.in1 (pyNext (.ref I) >>= _) _ _ s
    refine wpAny_bind (W.item i s _ _ hlt hst fun v s' hP hst' hm => ?_)
    obtain ⟨z, t, hz, rfl⟩ := hval i v hP
    have hS' : SetS w s'.heap S (ddS (ns.take i)) := hS.at fun o e => hm.heap S o hSw e
    show wpAny _ A.in1 (holding [Value.str z t] (setAdd S (.str z t)) >>= _) _ _ s'
    refine wpAny_bind (wpAny_holding ?_)
    unfold setAdd
    refine wpAny_holding ?_
    refine wpAny_bind ((PySem.strKind P w).pyHash (k := z) (strKind_is _ _ _ _) ?_)
    have hlen : (ddS (ns.take i)).length + 1 < scanBound := by
      have := ddS_len (ns.take i)
      rw [List.length_take] at this
      omega
    refine setS_add_hashed (s := { s' with toks := s'.toks + 1 }) hS' hlen fun h' b hsb hS2 => ?_
    have hS3 : SetS w h' S (ddS (ns.take (i + 1))) := by
      have e : ddS (ns.take (i + 1)) = addS (ddS (ns.take i)) z := by
        rw [List.take_add_one, hz]
        simp [ddS, List.foldl_append]
      rw [e]
      exact hS2
    refine wpAny_pure ⟨plainId_quiet F.plain_set_update_loop _, ih (i + 1) _ (by omega) hlt (W.frame _ s' _ _ hst' (Nat.le_succ _) fun b hb o e => ?_) hS3 fun s'' hm'' hS'' => ?_⟩
    · rw [hsb.2 b (fun h : b = S => hSf (by rw [← h]; exact hb))]; exact e
    · refine hR s'' (Moved.trans W.gtrans ((hm.mono hsub).then_heap (Nat.le_succ _) fun b o hb e => ?_) hm'') hS''
      rw [hsb.2 b (fun h : b = S => hb (by rw [h]; exact List.mem_cons_self))]; exact e
end
end GH
set_option Elab.async false
set_option linter.all false
set_option maxRecDepth 100000
set_option maxHeartbeats 4000000
set_option autoImplicit false
/-! set(xs) of a tuple or a list of texts. -/
namespace GH
open PySem PySem.Spec PyProof.Rows L2
section
variable {P : Program} {w : World} {A : Around} {E : Value → Shared → Prop} {s : Shared}

set_option maxRecDepth 100000 in
set_option maxHeartbeats 3200000 in
theorem call_setSTup {l : Addr} {items : Array Value} (ns : List Str) {Q : Value → Shared → Prop} (hh : A.handled = none) (hl : s.heap.IsTuple l items) (hit : StrsAre items.toList ns) (hb : ns.length + 1 < scanBound)
    (h : ∀ (h' : Heap) (tk : Nat), SetS w h' s.heap.objs.size (ddS ns) → (∀ b o, s.heap.get? b = some o → h'.get? b = some o) → Q (.ref s.heap.objs.size) { s with heap := h', toks := tk }) :
    wpAny (model P w) A (call (.type "set") [.ref l]) Q E s := by
  have hisz : items.size = ns.length := by
    have q := StrsAre.len_eq hit
    rw [Array.length_toList] at q
    exact q
  obtain ⟨c, tl, hmro⟩ := F.called_set.mro
  have hmade := F.called_set.made
  have hsub := F.called_set.sub
  refine wpAny_call (codeAny_of_tree ?_)
  show wpAny _ _ (callAny (.type "set") _) _ _ _
  refine wpAny_pure ⟨Code.quiet_builtin _ (by decide +kernel), codeAny_builtin F.entry_type_call ?_⟩
  rw [Around.under_plain (weight_type_call_type "set" [.ref l] []) rfl]
  have h1 := F.called_set.notType
  have h2 := F.called_set.canCreate
  have hct := F.typeCall_set_1 (.ref l)
  repeat (any_goals (first | assumption | wp_step))

  refine codeAny_mono (code_set_led1 (.ref l) (E := E) (Q₁ := fun obj s₁ => obj = .ref s.heap.objs.size ∧ s₁ = { s with heap := s.heap.push { cls := .type "set", dict := none, data := .set #[] 0 (.fresh 0 0 (!w.params.followText "set-order")) } }) ⟨rfl, rfl⟩) fun r s₁ hr => ?_
  cases r with
  | error e => exact hr
  | ok fl =>
    cases fl with
    | ret obj =>
      obtain ⟨rfl, rfl⟩ := hr
      have hS : (s.heap.push { cls := .type "set", dict := none, data := .set #[] 0 (.fresh 0 0 (!w.params.followText "set-order")) }).get? s.heap.objs.size = some { cls := .type "set", dict := none, data := .set #[] 0 (.fresh 0 0 (!w.params.followText "set-order")) } := Heap.get?_push_size _ rfl
      have hT : Shared.TypeIs { s with heap := s.heap.push { cls := .type "set", dict := none, data := .set #[] 0 (.fresh 0 0 (!w.params.followText "set-order")) } } (.ref s.heap.objs.size) "set" := ⟨_, hS, rfl⟩
      have hli := F.called_set.init.lookup
      have hbi := F.called_set.init.bind (.ref s.heap.objs.size)
      repeat (any_goals (first | assumption | wp_step))

      refine codeAny_mono (codeAny_call_builtin (R := wants (fun r s₂ => r = .none ∧ ∃ h' tk, s₂ = { s with heap := h', toks := tk } ∧ SetS w h' s.heap.objs.size (ddS ns) ∧
          (∀ b o, s.heap.get? b = some o → h'.get? b = some o)) E) F.called_set.init.plain F.entry_set_init (check_set_init_1 hT ?_)) fun r₂ s₂ hr₂ => ?_
      · obtain ⟨ol, hol, hcl, nl, hdl⟩ := hl
        obtain ⟨ocls, odict, odata, oslots⟩ := ol
        simp only at hcl hdl
        subst hcl; subst hdl
        have hol' : (s.heap.push { cls := .type "set", dict := none, data := .set #[] 0 (.fresh 0 0 (!w.params.followText "set-order")) }).get? l = some { cls := .type "tuple", dict := odict, data := .seq items nl, slots := oslots } := Heap.get?_push_of_some _ hol
        have hsls := F.sub_tuple_set
        have hslf := F.sub_tuple_frozenset
        have hne : (Value.type "tuple" == Value.type "dict") = false := by decide
        have hl1 : (s.heap.push { cls := .type "set", dict := none, data := .set #[] 0 (.fresh 0 0 (!w.params.followText "set-order")) }).IsTuple l items := ⟨_, hol', rfl, nl, rfl⟩
        unfold Builtin.«set.__init__» noKeywords Builtin.Frozenset.updateFrom
        generalize hPI : pyIter = PI
        wp_walk
        subst hPI

        refine wpAny_pyIter_tuple hl1 ?_
        refine wpAny_bind (wpAny_runValue ?_)
        have hlS : l < s.heap.objs.size := Heap.lt_size hol
        have hh3 : A.in1.in1.in1.handled = none := by simp [hh]
        have hz1 : (s.heap.push { cls := .type "set", dict := none, data := .set #[] 0 (.fresh 0 0 (!w.params.followText "set-order")) }).objs.size = s.heap.objs.size + 1 := Heap.size_push ..
        have hneI : l ≠ (s.heap.push { cls := .type "set", dict := none, data := .set #[] 0 (.fresh 0 0 (!w.params.followText "set-order")) }).objs.size := by
          rw [Heap.size_push]; exact Nat.ne_of_lt (Nat.lt_succ_of_lt hlS)
        have hSf : s.heap.objs.size ∉ [(s.heap.push { cls := .type "set", dict := none, data := .set #[] 0 (.fresh 0 0 (!w.params.followText "set-order")) }).objs.size, l] := by
          rw [Heap.size_push]; simp only [List.mem_cons, List.mem_singleton, List.not_mem_nil, or_false, not_or]
          exact ⟨Nat.ne_of_lt (Nat.lt_succ_self _), Nat.ne_of_gt hlS⟩
        have hval : ∀ (i : Nat) (v : Value), items[i]? = some v → ∃ k t, ns[i]? = some k ∧ v = .str k t := fun i v hv => by
          have hi : i < ns.length := by rw [← hisz]; exact (Array.getElem?_eq_some_iff.mp hv).1
          obtain ⟨t, e⟩ := SS.strs_at hit i v (by rw [Array.getElem?_toList]; exact hv)
          refine ⟨ns[i], t, List.getElem?_eq_getElem hi, ?_⟩
          rw [e, List.getD_eq_getElem?_getD, List.getElem?_eq_getElem hi] <;> rfl
        refine set_update_txt ((Walks.tuple hh3 _ l hneI items).toS) s.heap.objs.size
          hSf ns hisz hb hval (items.size - 0) 0 _ (by omega) (Nat.zero_le _)
          ⟨⟨_, Heap.get?_push_size _ rfl, rfl, rfl⟩, (hl1.push _)⟩ ?hS0 ?hR
        case hS0 =>
          have hget : ((s.heap.push { cls := .type "set", dict := none, data := .set #[] 0 (.fresh 0 0 (!w.params.followText "set-order")) }).push { cls := .type "tuple_iterator", data := .fields #[.ref l, .int 0 0] }).get? s.heap.objs.size
              = some { cls := .type "set", dict := none, data := .set #[] 0 (.fresh 0 0 (!w.params.followText "set-order")) } := Heap.get?_push_of_some _ hS
          exact setS_new_at hget
        case hR =>
          intro s' hm hS'
          obtain ⟨h', g2, d', tk', os'⟩ := s'
          have eg : g2 = s.gens := hm.gens
          have ed : d' = s.drawn := hm.drawn
          have eo : os' = s.os := hm.os
          subst eg; subst ed; subst eo
          show wpAny _ _ _ _ _ _
          refine wpAny_pure ?_
          show wpAny _ _ (ret Value.none) _ _ _
          refine wpAny_pure ⟨rfl, h', tk', rfl, hS', fun b o e => ?_⟩
          have hb0 : b < s.heap.objs.size := Heap.lt_size e
          have hb1 : b ≠ s.heap.objs.size := Nat.ne_of_lt hb0
          have hb2 : b ≠ (s.heap.push { cls := .type "set", dict := none, data := .set #[] 0 (.fresh 0 0 (!w.params.followText "set-order")) }).objs.size := by
            rw [Heap.size_push]; exact Nat.ne_of_lt (Nat.lt_succ_of_lt hb0)
          exact hm.heap b o (by simp only [List.mem_cons, List.mem_singleton, List.not_mem_nil, or_false, not_or]; exact ⟨hb1, hb2⟩) (Heap.get?_push_of_some _ (Heap.get?_push_of_some _ e))

      · cases r₂ with
        | error e => exact hr₂
        | ok fl₂ =>
          cases fl₂ with
          | ret r =>
            obtain ⟨rfl, h', tk, rfl, hS', hk'⟩ := hr₂
            repeat (any_goals (first | assumption | wp_step))
            exact h _ _ hS' hk'
          | _ => exact hr₂.elim
    | _ => exact hr.elim

set_option maxRecDepth 100000 in
set_option maxHeartbeats 3200000 in
theorem call_setSLst {l : Addr} {items : Array Value} (ns : List Str) {Q : Value → Shared → Prop} (hh : A.handled = none) (hl : s.heap.IsList l items) (hit : StrsAre items.toList ns) (hb : ns.length + 1 < scanBound)
    (h : ∀ (h' : Heap) (tk : Nat), SetS w h' s.heap.objs.size (ddS ns) → (∀ b o, s.heap.get? b = some o → h'.get? b = some o) → Q (.ref s.heap.objs.size) { s with heap := h', toks := tk }) :
    wpAny (model P w) A (call (.type "set") [.ref l]) Q E s := by
  have hisz : items.size = ns.length := by
    have q := StrsAre.len_eq hit
    rw [Array.length_toList] at q
    exact q
  obtain ⟨c, tl, hmro⟩ := F.called_set.mro
  have hmade := F.called_set.made
  have hsub := F.called_set.sub
  refine wpAny_call (codeAny_of_tree ?_)
  show wpAny _ _ (callAny (.type "set") _) _ _ _
  refine wpAny_pure ⟨Code.quiet_builtin _ (by decide +kernel), codeAny_builtin F.entry_type_call ?_⟩
  rw [Around.under_plain (weight_type_call_type "set" [.ref l] []) rfl]
  have h1 := F.called_set.notType
  have h2 := F.called_set.canCreate
  have hct := F.typeCall_set_1 (.ref l)
  repeat (any_goals (first | assumption | wp_step))

  refine codeAny_mono (code_set_led1 (.ref l) (E := E) (Q₁ := fun obj s₁ => obj = .ref s.heap.objs.size ∧ s₁ = { s with heap := s.heap.push { cls := .type "set", dict := none, data := .set #[] 0 (.fresh 0 0 (!w.params.followText "set-order")) } }) ⟨rfl, rfl⟩) fun r s₁ hr => ?_
  cases r with
  | error e => exact hr
  | ok fl =>
    cases fl with
    | ret obj =>
      obtain ⟨rfl, rfl⟩ := hr
      have hS : (s.heap.push { cls := .type "set", dict := none, data := .set #[] 0 (.fresh 0 0 (!w.params.followText "set-order")) }).get? s.heap.objs.size = some { cls := .type "set", dict := none, data := .set #[] 0 (.fresh 0 0 (!w.params.followText "set-order")) } := Heap.get?_push_size _ rfl
      have hT : Shared.TypeIs { s with heap := s.heap.push { cls := .type "set", dict := none, data := .set #[] 0 (.fresh 0 0 (!w.params.followText "set-order")) } } (.ref s.heap.objs.size) "set" := ⟨_, hS, rfl⟩
      have hli := F.called_set.init.lookup
      have hbi := F.called_set.init.bind (.ref s.heap.objs.size)
      repeat (any_goals (first | assumption | wp_step))

      refine codeAny_mono (codeAny_call_builtin (R := wants (fun r s₂ => r = .none ∧ ∃ h' tk, s₂ = { s with heap := h', toks := tk } ∧ SetS w h' s.heap.objs.size (ddS ns) ∧
          (∀ b o, s.heap.get? b = some o → h'.get? b = some o)) E) F.called_set.init.plain F.entry_set_init (check_set_init_1 hT ?_)) fun r₂ s₂ hr₂ => ?_
      · obtain ⟨ol, hol, hcl, nl, hdl⟩ := hl
        obtain ⟨ocls, odict, odata, oslots⟩ := ol
        simp only at hcl hdl
        subst hcl; subst hdl
        have hol' : (s.heap.push { cls := .type "set", dict := none, data := .set #[] 0 (.fresh 0 0 (!w.params.followText "set-order")) }).get? l = some { cls := .type "list", dict := odict, data := .seq items nl, slots := oslots } := Heap.get?_push_of_some _ hol
        have hsls := F.sub_list_set
        have hslf := F.sub_list_frozenset
        have hne : (Value.type "list" == Value.type "dict") = false := by decide
        have hl1 : (s.heap.push { cls := .type "set", dict := none, data := .set #[] 0 (.fresh 0 0 (!w.params.followText "set-order")) }).IsList l items := ⟨_, hol', rfl, nl, rfl⟩
        unfold Builtin.«set.__init__» noKeywords Builtin.Frozenset.updateFrom
        generalize hPI : pyIter = PI
        wp_walk
        subst hPI

        refine wpAny_pyIter_list hl1 ?_
        refine wpAny_bind (wpAny_runValue ?_)
        have hlS : l < s.heap.objs.size := Heap.lt_size hol
        have hh3 : A.in1.in1.in1.handled = none := by simp [hh]
        have hz1 : (s.heap.push { cls := .type "set", dict := none, data := .set #[] 0 (.fresh 0 0 (!w.params.followText "set-order")) }).objs.size = s.heap.objs.size + 1 := Heap.size_push ..
        have hneI : l ≠ (s.heap.push { cls := .type "set", dict := none, data := .set #[] 0 (.fresh 0 0 (!w.params.followText "set-order")) }).objs.size := by
          rw [Heap.size_push]; exact Nat.ne_of_lt (Nat.lt_succ_of_lt hlS)
        have hSf : s.heap.objs.size ∉ [(s.heap.push { cls := .type "set", dict := none, data := .set #[] 0 (.fresh 0 0 (!w.params.followText "set-order")) }).objs.size, l] := by
          rw [Heap.size_push]; simp only [List.mem_cons, List.mem_singleton, List.not_mem_nil, or_false, not_or]
          exact ⟨Nat.ne_of_lt (Nat.lt_succ_self _), Nat.ne_of_gt hlS⟩
        have hval : ∀ (i : Nat) (v : Value), items[i]? = some v → ∃ k t, ns[i]? = some k ∧ v = .str k t := fun i v hv => by
          have hi : i < ns.length := by rw [← hisz]; exact (Array.getElem?_eq_some_iff.mp hv).1
          obtain ⟨t, e⟩ := SS.strs_at hit i v (by rw [Array.getElem?_toList]; exact hv)
          refine ⟨ns[i], t, List.getElem?_eq_getElem hi, ?_⟩
          rw [e, List.getD_eq_getElem?_getD, List.getElem?_eq_getElem hi] <;> rfl
        refine set_update_txt ((Walks.list hh3 _ l hneI items).toS) s.heap.objs.size
          hSf ns hisz hb hval (items.size - 0) 0 _ (by omega) (Nat.zero_le _)
          ⟨⟨_, Heap.get?_push_size _ rfl, rfl, rfl⟩, (hl1.push _)⟩ ?hS0 ?hR
        case hS0 =>
          have hget : ((s.heap.push { cls := .type "set", dict := none, data := .set #[] 0 (.fresh 0 0 (!w.params.followText "set-order")) }).push { cls := .type "list_iterator", data := .fields #[.ref l, .int 0 0] }).get? s.heap.objs.size
              = some { cls := .type "set", dict := none, data := .set #[] 0 (.fresh 0 0 (!w.params.followText "set-order")) } := Heap.get?_push_of_some _ hS
          exact setS_new_at hget
        case hR =>
          intro s' hm hS'
          obtain ⟨h', g2, d', tk', os'⟩ := s'
          have eg : g2 = s.gens := hm.gens
          have ed : d' = s.drawn := hm.drawn
          have eo : os' = s.os := hm.os
          subst eg; subst ed; subst eo
          show wpAny _ _ _ _ _ _
          refine wpAny_pure ?_
          show wpAny _ _ (ret Value.none) _ _ _
          refine wpAny_pure ⟨rfl, h', tk', rfl, hS', fun b o e => ?_⟩
          have hb0 : b < s.heap.objs.size := Heap.lt_size e
          have hb1 : b ≠ s.heap.objs.size := Nat.ne_of_lt hb0
          have hb2 : b ≠ (s.heap.push { cls := .type "set", dict := none, data := .set #[] 0 (.fresh 0 0 (!w.params.followText "set-order")) }).objs.size := by
            rw [Heap.size_push]; exact Nat.ne_of_lt (Nat.lt_succ_of_lt hb0)
          exact hm.heap b o (by simp only [List.mem_cons, List.mem_singleton, List.not_mem_nil, or_false, not_or]; exact ⟨hb1, hb2⟩) (Heap.get?_push_of_some _ (Heap.get?_push_of_some _ e))

      · cases r₂ with
        | error e => exact hr₂
        | ok fl₂ =>
          cases fl₂ with
          | ret r =>
            obtain ⟨rfl, h', tk, rfl, hS', hk'⟩ := hr₂
            repeat (any_goals (first | assumption | wp_step))
            exact h _ _ hS' hk'
          | _ => exact hr₂.elim
    | _ => exact hr.elim
end
end GH
set_option Elab.async false
set_option linter.all false
set_option maxRecDepth 100000
set_option maxHeartbeats 4000000
set_option autoImplicit false
/-! sorted(set(xs)), texts. -/
namespace GH
open PySem PySem.Spec PyProof.Rows L2 PySem.W PySem.Calls
def leS (a b : Str) : Bool := decide (a.cps.toList ≤ b.cps.toList)
theorem sortS_perm {bs L : List Str} (p : bs.Perm L) : bs.mergeSort leS = L.mergeSort leS := by
  have tr : ∀ a b c : Str, leS a b = true → leS b c = true → leS a c = true := fun a b c h1 h2 => by
    simp only [leS, decide_eq_true_eq] at *
    exact List.le_trans h1 h2
  have to : ∀ a b : Str, (leS a b || leS b a) = true := fun a b => by
    simp only [leS, Bool.or_eq_true, decide_eq_true_eq]
    exact List.le_total _ _
  refine List.Perm.eq_of_pairwise (le := fun a b => leS a b = true) (fun a b _ _ h1 h2 => ?_) (List.pairwise_mergeSort tr to bs) (List.pairwise_mergeSort tr to L) (((List.mergeSort_perm bs leS).trans p).trans (List.mergeSort_perm L leS).symm)
  simp only [leS, decide_eq_true_eq] at h1 h2
  have := List.le_antisymm h1 h2
  cases a; cases b
  simp only [Str.mk.injEq]
  exact Array.toList_inj.mp this
def IsS (v : Value) (k : Str) : Prop := ∃ t, v = .str k t
section
variable {P : Program} {w : World} {A : Around} {E : Value → Shared → Prop} {s : Shared} {a : Addr} {L : List Str}
theorem each_isS : ∀ (vs : List Value), (∀ v ∈ vs, ∃ k t, v = Value.str k t) → EachIs IsS vs (vs.map fun v => keyS (0, v))
  | [], _ => .nil
  | v :: vs, h => by
    obtain ⟨k, t, rfl⟩ := h v (List.mem_cons_self ..)
    exact .cons ⟨t, rfl⟩ (each_isS vs fun u hu => h u (List.mem_cons_of_mem _ hu))
theorem sorted_setS {Q : Value → Shared → Prop} (R : SetS w s.heap a L) (hh : A.handled = none) (h64 : L.length < 4000) (hu : A.units + 10 < cLine)
    (hQ : ∀ s' p (out : List Value) (c : Nat), (∀ b o, s.heap.get? b = some o → s'.heap.get? b = some o) → s'.gens = s.gens → s'.os = s.os → s.heap.objs.size ≤ p →
      s'.heap.get? p = some (seqObj "list" out.toArray c) → EachIs IsS out (L.mergeSort leS) → Q (.ref p) s') :
    wpAny (model P w) A (call (.builtin "sorted") [.ref a]) Q E s := by
  obtain ⟨o, es, ep, t, ho, hex, hd, g, pL, nd, hb, hf, hr, hl⟩ := R
  refine Calls.call_function_entry kind_sorted plain_sorted entry_sorted (args_sorted1 _) ?_
  unfold Builtin.«sorted»
  refine wpAny_bind (m := checkCount "sorted" 1 1 _) (wpAny_pure ?_)
  refine wpAny_bind (collect_set (A := A.in1) hh ⟨o, ho, hex.1, hd⟩ hf hb hr hl fun s1 vs k1 hz g1 o1 pm => ?_)
  have hvl : vs.length = L.length := by rw [pm.length_eq, List.length_map, ← pL.length_eq, List.length_map]
  have e := each_isS vs fun v hv => by
    obtain ⟨e, he, q⟩ := List.mem_map.mp (pm.mem_iff.mp hv)
    obtain ⟨k, tk, h1, _⟩ := g e he
    exact ⟨k, tk, by rw [← q]; exact h1⟩
  have pk : (vs.map fun v => keyS (0, v)).Perm L := by
    have q := pm.map fun v => keyS (0, v)
    rw [List.map_map] at q
    exact q.trans pL
  have hsl : vs.length ≤ sizeLine := by rw [hvl, sizeLine_eq]; omega
  refine wpAny_bind (wpAny_newList ?_ hsl)
  have hoL : (s1.heap.push (seqObj "list" vs.toArray 0)).get? s1.heap.objs.size = some (seqObj "list" vs.toArray 0) := Heap.get?_push_size _ rfl
  have er : ∀ h : Heap, EachIs (fun v b => ∃ as, Reads h v (PyData.str b) as) vs (vs.map fun v => keyS (0, v)) := fun h => e.mono fun v b ⟨t, q⟩ => ⟨[], by rw [q]; exact .str _ _⟩
  have hal : AllAlike ((vs.map fun v => keyS (0, v)).map PyData.str) := AllAlike.of fun b b' => by simp [alike]
  have hk : Sortable ((vs.map fun v => keyS (0, v)).map PyData.str) := Sortable.others fun b => ⟨by simp, by simp⟩
  refine wpAny_bind (wpAny_holding (wpAny_call_entry slot_list_sort ⟨_, hoL, rfl⟩ entry_list_sort
    (list_sort_vals (s := { s1 with heap := s1.heap.push (seqObj "list" vs.toArray 0) }) hoL (SortsAt.data (each_map (R := fun v d => ∃ as, Reads _ v d as) PyData.str (er _)) hal hk (bound_map fun b hb => ?_)) hsl ⟨_, rfl, ?_⟩) (args_list_sort _)))
  · simp [PyData.depth]
    omega
  · obtain ⟨c, hc⟩ := sortedHeap_at (vs := vs) (out := (sortVals (dataKind (sortingHeap (s1.heap.push (seqObj "list" vs.toArray 0)) s1.heap.objs.size vs) ((vs.map fun v => keyS (0, v)).map PyData.str)) false vs vs).toArray) hoL
    have q := sortVals_data false e (er (sortingHeap (s1.heap.push (seqObj "list" vs.toArray 0)) s1.heap.objs.size vs)) hal
    rw [dataLe_str (fun b : Str => b)] at q
    have q2 : EachIs IsS _ (L.mergeSort leS) := sortS_perm pk ▸ q
    refine wpAny_pure ⟨_, rfl, hQ _ s1.heap.objs.size _ c (fun b u eb => ?_) g1 o1 hz hc q2⟩
    have q := k1 b u eb
    have hlt := Heap.lt_size q
    show (sortedHeap (s1.heap.push (seqObj "list" vs.toArray 0)) s1.heap.objs.size vs _).get? b = some u
    rw [sortedHeap_old (Nat.ne_of_lt hlt) (by rw [size_push']; exact Nat.lt_succ_of_lt hlt)]
    exact Heap.get?_push_of_some _ q
end
end GH
set_option Elab.async false
set_option linter.all false
set_option maxRecDepth 100000
set_option maxHeartbeats 4000000
set_option autoImplicit false
/-! sorted(set(xs)), texts: the rule. -/
namespace GH
open PySem PySem.Spec PyProof.Rows L2
def SetSO (w : World) (a : Addr) (L : List Str) : HO := .ext fun h => SetS w h a L
section
variable {X : Cx} {W : WX}
theorem setSO_new {w : World} {P : Program} {H : Hp} {h : Heap} {a : Addr} {L : List Str} (R : SetS w h a L) : ObjOk P w H h a (SetSO w a L) := by
  have ⟨o, _, _, _, ho, _⟩ := R
  exact ⟨R, ⟨o, ho⟩, fun h1 h2 p k => SetS.at p k⟩
theorem setSO_get {pins : List (Addr × Obj)} {σ : L2.St} {H : Hp} {s : Shared} {a : Addr} {L : List Str} (I : Inv X pins σ H s) (ha : H a = some (SetSO X.w a L)) : SetS X.w s.heap a L := (I.hok a _ ha).1
def rSetS (K : PySem.W.Frag) (w : World) : List V → Hp → VK → Prop := fun xs H Q => ∃ (l : Addr) (ns : List Str), xs = [V.ref l] ∧ (SqL K H l (ns.map V.str) ∨ SqT K H l (ns.map V.str)) ∧ ns.length < 4000 ∧
  ∀ p, H p = none → Q (.ref p) (upd H p (SetSO w p (ddS ns)))
theorem cr_setS (hc : X.calm = true) : CallR X (.type "set") (rSetS X.K X.w) := by
  intro pins s σ H vs us Q I r h
  obtain ⟨l, ns, rfl, hq, hl, q⟩ := h
  rw [Vals.ref1 r]
  have hd := I.ok.hd hc
  rcases hq with hq | hq
  · obtain ⟨its, rv, pt, hz⟩ := I.list hq
    refine call_setSLst ns hd pt.isList (strsAre_of rv) (by unfold scanBound; omega) fun h' tk R k => ?_
    have hn : H s.heap.objs.size = none := I.hok.fresh (Nat.le_refl _)
    exact ⟨.ref _, upd H s.heap.objs.size (SetSO X.w s.heap.objs.size (ddS ns)), I.laid (t' := tk) k (Nat.le_refl _) (setSO_new R), rfl, q _ hn⟩
  · obtain ⟨its, rv, pt, hz⟩ := I.tuple hq
    refine call_setSTup ns hd pt (strsAre_of rv) (by unfold scanBound; omega) fun h' tk R k => ?_
    have hn : H s.heap.objs.size = none := I.hok.fresh (Nat.le_refl _)
    exact ⟨.ref _, upd H s.heap.objs.size (SetSO X.w s.heap.objs.size (ddS ns)), I.laid (t' := tk) k (Nat.le_refl _) (setSO_new R), rfl, q _ hn⟩
def rSortedS (w : World) : List V → Hp → VK → Prop := fun vs H Q => ∃ (a : Addr) (L : List Str), vs = [V.ref a] ∧ H a = some (SetSO w a L) ∧ L.length < 4000 ∧ ∀ p, H p = none → Q (.ref p) (upd H p (.lst ((L.mergeSort leS).map V.str)))
theorem vals_isS : ∀ {out : List Value} {l : List Str}, PySem.W.EachIs IsS out l → Vals (l.map V.str) out
  | _, _, .nil => .nil
  | _, _, .cons ⟨t, e⟩ r => .cons (e ▸ ⟨t, rfl⟩) (vals_isS r)
theorem cr_sortedS (hc : X.calm = true) (hu : X.A.units + 200 < cLine) : CallR X (.builtin "sorted") (rSortedS X.w) := by
  intro pins s σ H vs us Q I r h
  obtain ⟨a, L, rfl, ha, h64, q⟩ := h
  have R := setSO_get I ha
  rw [Vals.ref1 r]
  refine sorted_setS R (I.ok.hd hc) h64 (by omega) fun s' p out c k g o hp hg hi => ?_
  have hlen : ((L.mergeSort leS).map V.str).length ≤ sizeLine := by rw [List.length_map, List.length_mergeSort, sizeLine_eq]; omega
  have hn : H p = none := I.hok.fresh hp
  have J : Inv X pins σ (upd H p (.lst ((L.mergeSort leS).map V.str))) { s with heap := s'.heap, gens := s'.gens, drawn := s'.drawn, toks := s'.toks } :=
    I.call (ch := []) (Un.laid k hp hn) (I.hok.laid k hp ⟨hlen, out, c, vals_isS hi, hg⟩) (by rw [g]; exact I.bare) (fun _ z => nomatch z)
  have e : s' = { s with heap := s'.heap, gens := s'.gens, drawn := s'.drawn, toks := s'.toks } := by
    cases s'
    cases s
    cases o
    rfl
  rw [e]
  exact ⟨.ref p, _, J, rfl, q p hn⟩
theorem VRs_strs {K : PySem.W.Frag} {g : Gh} {H : Hp} : ∀ (l : List Str), VRs K g H (l.map fun s => Val.str s.cps.toList) (l.map V.str)
  | [] => VRs.nil
  | s :: l => VRs.cons (by simp only [VR]; exact congrArg V.str (by cases s; rfl)) (VRs_strs l)
noncomputable def sortSet (ys : List (List Nat)) : List Val := ((ddS (ys.map sOf)).mergeSort leS).map fun s => Val.str s.cps.toList
noncomputable def vSortSet (v : Val) (h : Hv) : Res Val := match seqOf h v with
  | some l => match strsOf l with
    | some ys => if ys.length < 4000 then .ok (.lst (sortSet ys)) h else .fail
    | none => .fail
  | none => .fail
theorem ge_sortSet {e : Expr} {d : Den} {p p2 q pos : Pos} (hc : X.calm = true) (hu : X.A.units + 200 < cLine) (he : GE X W e d) (hm : X.mg "sorted" = none) (hm2 : X.mg "set" = none) (hg : Gl X "sorted" := by rfl) (hg2 : Gl X "set" := by rfl)
    (hst2 : starEach [e] X.env = (false, eval e X.env) :: starEach [] X.env := by rfl) (hpl2 : (backTo q (starEach [] X.env)).any (·.1) = false := by rfl)
    (hst : starEach [.Call (.Name "set" p2) [e] [] q] X.env = (false, eval (.Call (.Name "set" p2) [e] [] q) X.env) :: starEach [] X.env := by rfl) (hpl : (backTo pos (starEach [] X.env)).any (·.1) = false := by rfl) :
    GE X W (.Call (.Name "sorted" p) [.Call (.Name "set" p2) [e] [] q] [] pos) (dFn vSortSet d) := by
  refine PE.imp (pe_callB (cr_sortedS hc hu) hg hm PyProof.Rows.boot_sorted (pa_cons (pe_callTy (cr_setS hc) hg2 hm2 PyProof.Rows.boot_set (pa_cons he pa_nil hst2) (by decide +kernel) (by decide +kernel) hst2 hpl2) pa_nil hst) (by decide +kernel) (by decide +kernel) hst hpl) fun σ H Q ⟨g, l, h, S, R, A⟩ => ?_
  refine tG_of S R A fun v h1 g1 H1 x E1 S1 R1 r1 A1 => ?_
  unfold vSortSet at A1
  split at A1
  · rename_i l1 hl
    split at A1
    · rename_i ys hy
      split at A1
      · rename_i hz
        obtain ⟨a, xs, rfl, s, rs⟩ := seqOf_ok R1 r1 hl
        have e := strsOf_ok hy rs
        rw [e] at s
        refine ⟨a, ys.map sOf, rfl, by first | exact s | exact s.symm, by rw [List.length_map]; exact hz, fun p np => ?_⟩
        obtain ⟨E4, R4⟩ := R1.grow (o := SetSO X.w p (ddS (ys.map sOf))) np
        have hl2 : (ddS (ys.map sOf)).length < 4000 := by have := ddS_len (ys.map sOf); rw [List.length_map] at this; omega
        refine ⟨p, _, rfl, upd_same, hl2, fun p' np' => ?_⟩
        obtain ⟨E5, R5⟩ := R4.grow (o := .lst (((ddS (ys.map sOf)).mergeSort leS).map V.str)) np'
        refine A1 g1 _ (.ref p') (E4.trans E5) R5 ?_
        simp only [VR]
        exact ⟨p', _, rfl, R4.fresh np', upd_same, VRs_strs _⟩
      · exact A1.elim
    · exact A1.elim
  · exact A1.elim
end
end GH
set_option Elab.async false
set_option linter.all false
set_option maxRecDepth 100000
set_option maxHeartbeats 1000000
set_option autoImplicit false
/-! steps of plain reasoning, for every law. -/
namespace GH
open PySem
section
variable {l : GH.Loc} {h h1 : Hv} {P : Post} {rest a b : Stm} {d : Den} {i : Nat} {v : Val} {w u : List Nat} {c : Bool}
theorem asg_ (e : d l h = .ok v h1) (z : sok (rest (l.set i (some v)) h1) P) : sok (sSeq (sAsg d (gName i)) rest l h) P := by
  rw [e_seq, sok_then, e_asg, e]
  exact z
theorem ret_ (z : ok (d l h) P.rt) : sok (sSeq (sRet d) rest l h) P := by
  rw [e_seq, sok_then, e_ret, sok_to]
  exact z
theorem skip_ (hl : l[i]? = some (some (.str u))) (hne : u ≠ w) (z : sok (rest l h) P) : sok (sSeq (sIf (dB (dBin vEq (dVar i) (dC (.str w)))) a sNext) rest l h) P := by
  rw [e_seq, sok_then]
  simp only [e_if, e_b, e_bin, dVar, hl, Res.bind_ok, e_c, vEq_str, resB_bl, Res.to_ok, hne, decide_false, Bool.false_eq_true, if_false, e_next, sok_nx]
  exact z
theorem hit_ (hl : l[i]? = some (some (.str w))) (z : ok (d l h) P.rt) : sok (sSeq (sIf (dB (dBin vEq (dVar i) (dC (.str w)))) (sSeq (sRet d) sNext) sNext) rest l h) P := by
  rw [e_seq, sok_then]
  simp only [e_if, e_b, e_bin, dVar, hl, Res.bind_ok, e_c, vEq_str, resB_bl, Res.to_ok, decide_true, if_true]
  exact ret_ z
theorem if_ {t : DenG Bool} (e : t l h = .ok c h) (z1 : c = true → sok (a l h) { P with nx := fun l h => sok (rest l h) P }) (z2 : c = false → sok (rest l h) P) : sok (sSeq (sIf t a sNext) rest l h) P := by
  rw [e_seq, sok_then]
  simp only [e_if, e, Res.to_ok]
  cases c with
  | true => simpa using z1 rfl
  | false => simpa using z2 rfl
/-- a test that may call -/
theorem ifk_ {t : DenG Bool} (e : ok (t l h) fun c h1 => (c = true → sok (a l h1) { P with nx := fun l h => sok (rest l h) P }) ∧ (c = false → sok (rest l h1) P)) : sok (sSeq (sIf t a sNext) rest l h) P := by
  rw [e_seq, sok_then, e_if, sok_to]
  refine ok_imp e fun c h1 z => ?_
  cases c with
  | true => simpa using z.1 rfl
  | false => simpa using z.2 rfl
theorem asgk_ (z : ok (d l h) fun v h1 => sok (rest (l.set i (some v)) h1) P) : sok (sSeq (sAsg d (gName i)) rest l h) P := by
  rw [e_seq, sok_then, e_asg, sok_to]
  exact z
theorem asgq_ (Q : Val → Hv → Prop) (a : ok (d l h) Q) (z : ∀ v h1, Q v h1 → sok (rest (l.set i (some v)) h1) P) : sok (sSeq (sAsg d (gName i)) rest l h) P := asgk_ (ok_imp a z)
theorem sok_seqo (R : GH.Loc → Hv → Prop) (h1 : ∀ R' : GH.Loc → Hv → Prop, (∀ l h, R l h → R' l h) → sok (a l h) { P with nx := R' }) (h2 : ∀ l h, R l h → sok (b l h) P) : sok (sSeq a b l h) P := sok_seq R (h1 R fun _ _ z => z) h2
theorem asgo_ (Q : Val → Hv → Prop) (a : ∀ Q' : Val → Hv → Prop, (∀ v h, Q v h → Q' v h) → ok (d l h) Q') (z : ∀ v h1, Q v h1 → sok (rest (l.set i (some v)) h1) P) : sok (sSeq (sAsg d (gName i)) rest l h) P := asgq_ Q (a Q fun _ _ z => z) z
end
theorem forL_invo {t : Tg} {b : Stm} {s : Src} {P : Post} (I : List Val → GH.Loc → Hv → Prop)
    (step : ∀ I' : List Val → GH.Loc → Hv → Prop, (∀ x l h, I x l h → I' x l h) → ∀ x r l h, I (x :: r) l h → srcOk s h ∧ tok (t x l h) fun l1 h1 => sok (b l1 h1) { nx := fun l2 h2 => I' r l2 h2, ct := fun l2 h2 => I' r l2 h2, bk := P.nx, rt := P.rt })
    (done : ∀ l h, I [] l h → srcOk s h ∧ P.nx l h) (items : List Val) (l : GH.Loc) (h : Hv) (i : I items l h) : sok (forL t b s items l h) P := forL_inv I (step I fun _ _ _ z => z) done items l h i
theorem lcL_invo {t : Tg} {c : DenG Bool} {e : Den} {s : Src} {P : List Val → Hv → Prop} (I : List Val → List Val → Hv → Prop) {l : GH.Loc}
    (step : ∀ I' : List Val → List Val → Hv → Prop, (∀ x l h, I x l h → I' x l h) → ∀ x r acc h, I (x :: r) acc h → srcOk s h ∧ tok (t x l h) fun l1 h1 => ok (c l1 h1) fun b h2 => if b then ok (e l1 h2) fun v h3 => I' r (acc ++ [v]) h3 else I' r acc h2)
    (done : ∀ acc h, I [] acc h → srcOk s h ∧ P acc h) (items acc : List Val) (h : Hv) (i : I items acc h) : ok (lcL t c e s items acc l h) P := lcL_inv I (step I fun _ _ _ z => z) done items acc h i
@[simp] theorem e_isi (t : Ty) (d : Den) (l : GH.Loc) (h : Hv) : dIsi t d l h = (d l h).bind fun v h1 => match tyOf h1 v with
  | some a => .ok (.bl (isiB a t)) h1
  | none => .fail := nrfl rfl
theorem vAll_bls (l : List Bool) (h : Hv) : vAll (.lst (l.map .bl)) h = .ok (.bl (l.all id)) h := by
  have : blsOf (l.map .bl) = some l := by
    induction l with
    | nil => rfl
    | cons a l ih => simp [blsOf, ih]
  simp [vAll, lstOf, this]
theorem rng_ok {j : Nat} {h : Hv} (h1 : j ≤ 16777216) : vRange1 (.int (j : Int)) h = .ok (rangeL 0 j, none) h := by
  have e : (2 : Int) ^ 62 = 4611686018427387904 := by decide
  unfold vRange1
  rw [e]
  dsimp only
  rw [if_pos ⟨by omega, by omega⟩]
  simp
theorem rng_mem {n : Nat} {v : Val} (m : v ∈ rangeL 0 n) : ∃ j : Nat, j < n ∧ v = .int j := by
  obtain ⟨j, hj, rfl⟩ := List.mem_map.mp m
  exact ⟨j, List.mem_range.mp hj, by simp⟩
theorem nth_nat {α : Type} {l : List α} {j : Nat} {v : α} (e : l[j]? = some v) : nth l (j : Int) = some v := by
  simp [nth, e]
end GH
set_option Elab.async false
set_option linter.all false
set_option maxRecDepth 100000
set_option maxHeartbeats 1000000
set_option autoImplicit false
/-! plain lemmas for every law. -/
namespace GH
open PySem
section
variable (a b c d : Val) (l : List Val) (h : Hv)
@[simp] theorem t0 : vIx (.tup (a :: l)) (.int 0) h = .ok a h := nrfl rfl
@[simp] theorem t1 : vIx (.tup (a :: b :: l)) (.int 1) h = .ok b h := nrfl rfl
@[simp] theorem t2 : vIx (.tup (a :: b :: c :: l)) (.int 2) h = .ok c h := nrfl rfl
@[simp] theorem t3 : vIx (.tup (a :: b :: c :: d :: l)) (.int 3) h = .ok d h := nrfl rfl
@[simp] theorem m1_3 : vIx (.tup [a, b, c]) (.int (-1)) h = .ok c h := nrfl rfl
@[simp] theorem m2_3 : vIx (.tup [a, b, c]) (.int (-2)) h = .ok b h := nrfl rfl
@[simp] theorem m1_4 : vIx (.tup [a, b, c, d]) (.int (-1)) h = .ok d h := nrfl rfl
@[simp] theorem m2_4 : vIx (.tup [a, b, c, d]) (.int (-2)) h = .ok c h := nrfl rfl
end
@[simp] theorem e_neg (i : Int) (l : GH.Loc) (h : Hv) : dNeg (dC (.int i)) l h = .ok (.int (-i)) h := nrfl rfl
@[simp] theorem e_osome (d : Den) (l : GH.Loc) (h : Hv) : oSome d l h = (d l h).bind fun v h1 => match v with
  | .int i => .ok (some i) h1
  | _ => .fail := nrfl rfl
@[simp] theorem e_andv (a b : Den) (l : GH.Loc) (h : Hv) : dAndV a b l h = (a l h).bind fun v h1 => match v with
  | .bl true => b l h1
  | .bl false => .ok (.bl false) h1
  | _ => .fail := by
  unfold dAndV
  cases a l h with
  | ok v h1 => cases v <;> first | rfl | (rename_i b; cases b <;> rfl)
  | exc e h1 => rfl
  | fail => rfl
@[simp] theorem e_notv (a : Den) (l : GH.Loc) (h : Hv) : dNotV a l h = (a l h).bind fun v h1 => match v with
  | .bl c => .ok (.bl (!c)) h1
  | _ => .fail := nrfl rfl
@[simp] theorem e_orv (a b : Den) (l : GH.Loc) (h : Hv) : dOrV a b l h = (a l h).bind fun v h1 => match v with
  | .bl true => .ok (.bl true) h1
  | .bl false => b l h1
  | _ => .fail := by
  unfold dOrV
  cases a l h with
  | ok v h1 => cases v <;> first | rfl | (rename_i b; cases b <;> rfl)
  | exc e h1 => rfl
  | fail => rfl
@[simp] theorem e_chain (f f' : Val → Val → Hv → Res Val) (da db dc : Den) (l : GH.Loc) (h : Hv) : dChain f f' da db dc l h = (da l h).bind fun v h1 => (db l h1).bind fun u h2 => (f v u h2).bind fun z h3 => match z with
  | .bl true => (dc l h3).bind fun w h4 => f' u w h4
  | .bl false => .ok (.bl false) h3
  | _ => .fail := nrfl rfl
theorem add_lst {a b : List Val} {h : Hv} (e : a.length + b.length ≤ 16777216) : vAdd (.lst a) (.lst b) h = .ok (.lst (a ++ b)) h := by
  simp [vAdd, lstOf, lineN, e]
theorem add_tup {a b : List Val} {h : Hv} (e : a.length + b.length ≤ 16777216) : vAdd (.tup a) (.tup b) h = .ok (.tup (a ++ b)) h := by
  simp [vAdd, lineN, e]
theorem vRange1_ok {j : Int} {h : Hv} (h0 : 0 ≤ j) (h1 : j ≤ 16777216) : vRange1 (.int j) h = .ok (rangeL 0 j.toNat, none) h := by
  have e : (2 : Int) ^ 62 = 4611686018427387904 := by decide
  unfold vRange1
  rw [e]
  dsimp only
  rw [if_pos ⟨by omega, h1⟩]
theorem vRange2_ok {a b : Int} {h : Hv} (h0 : -1000000 ≤ a) (h3 : a ≤ 1000000) (h1 : b ≤ 16777216) (h2 : a ≤ b) (h4 : b - a ≤ 16777216) : vRange2 (.int a) (.int b) h = .ok (rangeL a (b - a).toNat, none) h := by
  have e : (2 : Int) ^ 62 = 4611686018427387904 := by decide
  unfold vRange2
  rw [e]
  dsimp only
  rw [if_pos (by constructor <;> first | omega | (constructor <;> omega))]
theorem cut_take {α : Type} (l : List α) (n : Nat) : cut l none (some (n : Int)) = l.take n := by
  unfold cut
  rw [HT.sIx_nat, HT.sIx_none]
  simp only [List.drop_zero, Nat.sub_zero]
  by_cases h : n ≤ l.length
  · rw [Nat.min_eq_left h]
  · rw [Nat.min_eq_right (by omega), List.take_of_length_le (Nat.le_refl _), List.take_of_length_le (by omega)]
theorem cut_drop {α : Type} (l : List α) (n : Nat) : cut l (some (n : Int)) none = l.drop n := by
  unfold cut
  rw [HT.sIx_nat, HT.sIx_none]
  by_cases h : n ≤ l.length
  · rw [Nat.min_eq_left h]
    exact List.take_of_length_le (by simp)
  · rw [Nat.min_eq_right (by omega), List.drop_of_length_le (Nat.le_refl _), List.drop_of_length_le (by omega)]
    simp
section
variable (h : Hv) (A B C : Ob)
@[simp] theorem g0 : (h ++ [A, B])[h.length]? = some A := by simp
@[simp] theorem g1 : (h ++ [A, B])[h.length + 1]? = some B := by
  rw [List.getElem?_append_right (by omega)]; simp
@[simp] theorem s0 : (h ++ [A, B]).set h.length C = h ++ [C, B] := by simp
@[simp] theorem s1 : (h ++ [A, B]).set (h.length + 1) C = h ++ [A, C] := by
  rw [List.set_append_right _ _ (by omega)]; simp
end
theorem append_ref {i : Nat} {l : List Val} {v : Val} {h : Hv} (e : h[i]? = some (.lst l)) (hl : l.length < 16777216) : vAppend (.ref i) v h = .ok .non (h.set i (.lst (l ++ [v]))) := by
  simp [vAppend, e, lineN, hl]
theorem pop_ref {i : Nat} {l : List Val} {v : Val} {h : Hv} (e : h[i]? = some (.lst (l ++ [v]))) : vPop (.ref i) h = .ok v (h.set i (.lst l)) := by
  simp [vPop, e]
theorem isLst_ref {i : Nat} {l : List Val} {h : Hv} (e : h[i]? = some (.lst l)) : isLst h (.ref i) = true := by
  simp [isLst, lstOf, e]
theorem tru_ref {i : Nat} {l : List Val} {h : Hv} (e : h[i]? = some (.lst l)) : vTru (.ref i) h = .ok (!l.isEmpty) h := by
  simp [vTru, seqOf, lstOf, e]
@[simp] theorem tru_tup {l : List Val} {h : Hv} : vTru (.tup l) h = .ok (!l.isEmpty) h := by
  simp [vTru, seqOf]
theorem len_ref {i : Nat} {l : List Val} {h : Hv} (e : h[i]? = some (.lst l)) : vLen (.ref i) h = .ok (.int l.length) h := by
  simp [vLen, seqOf, lstOf, e]
theorem pv_inj {p q : List Int} (h : pv p = pv q) : p = q := by
  have h : p.map Val.int = q.map Val.int := by simpa using h
  exact List.map_inj_right (fun a b e => by simpa using e) |>.mp h
theorem unpv : ∀ l : List Val, (∀ v ∈ l, ∃ p, v = pv p) → ∃ L : List (List Int), l = L.map pv
  | [], _ => ⟨[], rfl⟩
  | v :: l, h => by
    obtain ⟨p, rfl⟩ := h v (List.mem_cons_self ..)
    obtain ⟨L, rfl⟩ := unpv l fun v hv => h v (List.mem_cons_of_mem _ hv)
    exact ⟨p :: L, rfl⟩
theorem pds_ints (p : List Int) : pds (p.map .int) = p.map PyData.int := by
  induction p with
  | nil => rfl
  | cons a p ih => simp only [List.map_cons, pds, pd, ih]
theorem alike_pv (p q : List Int) : PySem.W.alike (pd (pv p)) (pd (pv q)) = true := by
  simp only [pd, PySem.W.alike, pds_ints, PySem.W.alike_ints]
theorem mem_pv {p : List Int} {l : List (List Int)} : pv p ∈ l.map pv ↔ p ∈ l := by
  constructor
  · intro h
    obtain ⟨q, hq, e⟩ := List.mem_map.mp h
    rw [← pv_inj e]; exact hq
  · exact fun h => List.mem_map.mpr ⟨p, h, rfl⟩
theorem sorted_pv {l : List (List Int)} (hd : l = [] ∨ ∃ r, l = [] :: r) (h : Hv) : ∃ L : List (List Int), (∀ q, q ∈ L ↔ q ∈ l) ∧ L.length = l.length ∧ vSorted (.lst (l.map pv)) h = .ok (.lst (L.map pv)) h := by
  have ok : sortOk (l.map pv) = true := by
    unfold sortOk
    have h1 := okVs_pvs l
    have h2 := dpVs_pvs l
    have h3 : ((l.map pv).all fun a => (l.map pv).all fun b => PySem.W.alike (pd a) (pd b)) = true := by
      refine List.all_eq_true.mpr fun a ha => List.all_eq_true.mpr fun b hb => ?_
      obtain ⟨p, _, rfl⟩ := List.mem_map.mp ha
      obtain ⟨q, _, rfl⟩ := List.mem_map.mp hb
      exact alike_pv p q
    rw [h1, h3]
    have h4 : decide (dpVs (l.map pv) ≤ 190) = true := decide_eq_true (by omega)
    rw [h4]
    rcases hd with rfl | ⟨r, rfl⟩
    · rfl
    · simp
      exact .inr rfl
  have perm : (sortV (l.map pv)).Perm (l.map pv) := List.mergeSort_perm _ _
  obtain ⟨L, hL⟩ := unpv (sortV (l.map pv)) fun v hv => by
    obtain ⟨p, _, e⟩ := List.mem_map.mp (perm.mem_iff.mp hv)
    exact ⟨p, e.symm⟩
  refine ⟨L, fun q => ?_, ?_, ?_⟩
  · rw [← mem_pv (l := l), ← perm.mem_iff, hL, mem_pv]
  · have := perm.length_eq
    rw [hL] at this
    simpa using this
  · simp [vSorted, lstOf, ok, hL]
/-! comprehensions whose parts are known and change nothing -/
theorem lcL_eq {t : Tg} {c : DenG Bool} {e : Den} {s : Src} {l : GH.Loc} {h : Hv} (f : Val → Bool) (g : Val → Val) (hs : srcOk s h) : ∀ (items acc : List Val), (∀ x ∈ items, ∃ l1, t x l h = .ok l1 h ∧ c l1 h = .ok (f x) h ∧ (f x = true → e l1 h = .ok (g x) h)) → lcL t c e s items acc l h = .ok (acc ++ (items.filter f).map g) h
  | [], acc, _ => by simp [lcL, hs]
  | x :: r, acc, q => by
    obtain ⟨l1, e1, e2, e3⟩ := q x (List.mem_cons_self ..)
    have ih := fun acc => lcL_eq (l := l) f g hs r acc fun y hy => q y (List.mem_cons_of_mem _ hy)
    simp only [lcL, if_pos hs, e1, e2]
    cases ef : f x with
    | true => simp [e3 ef, ih, ef]
    | false => simp [ih, ef]
theorem lcL_map {t : Tg} {e : Den} {s : Src} {l : GH.Loc} {h : Hv} (g : Val → Val) (hs : srcOk s h) (items acc : List Val) (q : ∀ x ∈ items, ∃ l1, t x l h = .ok l1 h ∧ e l1 h = .ok (g x) h) : lcL t dYes e s items acc l h = .ok (acc ++ items.map g) h := by
  rw [lcL_eq (fun _ => true) g hs items acc fun x hx => ?_]
  · congr 2
    rw [List.filter_eq_self.mpr fun _ _ => rfl]
  · obtain ⟨l1, e1, e2⟩ := q x hx
    exact ⟨l1, e1, rfl, fun _ => e2⟩
theorem lcB_map {t : Tg} {e : Den} {s : Src} {l : GH.Loc} {h : Hv} (g : Val → Val) (hs : srcOk s h) : ∀ (items acc : List Val), (∀ x ∈ items, ∃ l1, t x l h = .ok l1 h ∧ e l1 h = .ok (g x) h) → acc.length + items.length ≤ 16777216 → lcB t dYes e s items acc l h = .ok (acc ++ items.map g) h
  | [], acc, _, _ => by simp [lcB, hs]
  | x :: r, acc, q, n => by
    obtain ⟨l1, e1, e2⟩ := q x (List.mem_cons_self ..)
    simp only [List.length_cons] at n
    have hl : acc.length < lineN := by unfold lineN; omega
    simp only [lcB, if_pos hs, e1, e_yes, if_true, e2, if_pos hl]
    rw [lcB_map g hs r (acc ++ [g x]) (fun y hy => q y (List.mem_cons_of_mem _ hy)) (by simp; omega)]
    simp
theorem lc2L_map {t t1 : Tg} {di1 : DenG Src} {e : Den} {vs1 : List Nat} {s : Src} {l : GH.Loc} {h : Hv} (F : Val → List Val) (hs : srcOk s h) : ∀ (items acc : List Val), (∀ x ∈ items, ∃ l1 s1, t x l h = .ok l1 h ∧ di1 l1 h = .ok s1 h ∧ ∀ acc : List Val, acc.length + (F x).length ≤ 16777216 → lcB t1 dYes e s1 s1.1 acc (wipeL l1 vs1) h = .ok (acc ++ F x) h) →
    acc.length + (items.flatMap F).length ≤ 16777216 → lc2L t dYes di1 t1 dYes e vs1 s items acc l h = .ok (acc ++ items.flatMap F) h
  | [], acc, _, _ => by simp [lc2L, hs]
  | x :: r, acc, q, n => by
    obtain ⟨l1, s1, e1, e2, e3⟩ := q x (List.mem_cons_self ..)
    simp only [List.flatMap_cons, List.length_append] at n
    simp only [lc2L, if_pos hs, e1, e_yes, if_true, e2]
    rw [e3 acc (by omega)]
    simp only [Res.bind_ok]
    rw [lc2L_map F hs r (acc ++ F x) (fun y hy => q y (List.mem_cons_of_mem _ hy)) (by rw [List.length_append]; omega)]
    simp
theorem dcL_map {t : Tg} {ek e : Den} {s : Src} {l : GH.Loc} {h : Hv} (g : Val → Val × Val) (hs : srcOk s h) : ∀ (items : List Val) (acc : List (Val × Val)), (∀ x ∈ items, ∃ l1, t x l h = .ok l1 h ∧ ek l1 h = .ok (g x).1 h ∧ e l1 h = .ok (g x).2 h ∧ (keyOf (g x).1).isSome = true) → dcL t dYes ek e s items acc l h = .ok ((items.map g).foldl (fun a p => dPut a p.1 p.2) acc) h
  | [], acc, _ => by simp [dcL, hs]
  | x :: r, acc, q => by
    obtain ⟨l1, e1, e2, e3, e4⟩ := q x (List.mem_cons_self ..)
    obtain ⟨kk, e5⟩ := Option.isSome_iff_exists.mp e4
    simp only [dcL, if_pos hs, e1, e_yes, if_true, e2, e3, e5]
    rw [dcL_map g hs r _ fun y hy => q y (List.mem_cons_of_mem _ hy)]
    rfl
end GH
set_option Elab.async false
set_option linter.all false
set_option maxRecDepth 100000
set_option maxHeartbeats 4000000
set_option autoImplicit false
/-! sorted(d) of text keys, d.pop(k, x), xs.reverse(), str(n), except C as e: return A if isinstance(e, D) else B. -/
namespace GH
open PySem PySem.Spec PyProof.Rows L2
theorem mkT_ok {vs : List Val} {h : Hv} (e : vs.length ≤ 16777216) : mkTup vs h = .ok (.tup vs) h := by simp [mkTup, lineN, e]
theorem mkL_ok {vs : List Val} {h : Hv} (e : vs.length ≤ 16777216) : mkLst vs h = .ok (.lst vs) h := by simp [mkLst, lineN, e]
theorem leS_trans (a b c : Str) (h1 : leS a b = true) (h2 : leS b c = true) : leS a c = true := by
  simp only [leS, decide_eq_true_eq] at *
  exact List.le_trans h1 h2
theorem leS_total (a b : Str) : (leS a b || leS b a) = true := by
  simp only [leS, Bool.or_eq_true, decide_eq_true_eq]
  exact List.le_total _ _
theorem leS_anti {a b : Str} (h1 : leS a b = true) (h2 : leS b a = true) : a = b := by
  simp only [leS, decide_eq_true_eq] at h1 h2
  have := List.le_antisymm h1 h2
  cases a; cases b
  simp only [Str.mk.injEq]
  exact Array.toList_inj.mp this
theorem sortS_of {ys ks : List Str} (p : ys.Perm ks) (h : ys.Pairwise fun a b => leS a b = true) : ys = ks.mergeSort leS :=
  List.Perm.eq_of_pairwise (le := fun a b => leS a b = true) (fun _ _ _ _ h1 h2 => leS_anti h1 h2) h (List.pairwise_mergeSort leS_trans leS_total ks) (p.trans (List.mergeSort_perm ks leS).symm)
theorem lt_cps {a b : Str} (h : ltCps b.cps.toList a.cps.toList = false) : leS a b = true := by
  rw [PyProof.Rows.ltCps_eq] at h
  simp only [leS, decide_eq_true_eq]
  exact List.not_lt.mp (by simpa using h)
theorem rising_pw : ∀ {ss : List Str} {p : Str}, risingS p ss = true → (p :: ss).Pairwise fun a b => leS a b = true
  | [], p, _ => List.pairwise_singleton _ _
  | x :: r, p, h => by
    simp only [risingS, Bool.and_eq_true, Bool.not_eq_true'] at h
    have ih := rising_pw h.2
    refine List.pairwise_cons.mpr ⟨fun b hb => ?_, ih⟩
    have h1 := lt_cps h.1
    rcases List.mem_cons.mp hb with rfl | hb
    · exact h1
    · exact leS_trans _ _ _ h1 ((List.pairwise_cons.mp ih).1 b hb)
theorem sorted_pw {ys : List Str} (h : sortedS ys = true) : ys.Pairwise fun a b => leS a b = true := by
  cases ys with
  | nil => exact .nil
  | cons x r => exact rising_pw h
section
variable {X : Cx} {W : WX}
/-- sorted(d), the keys texts -/
noncomputable def sortStr (ys : List (List Nat)) : List Val := ((ys.map sOf).mergeSort leS).map fun s => Val.str s.cps.toList
noncomputable def vSortDic (v : Val) (h : Hv) : Res Val := match dicOf h v with
  | some l => match strsOf (l.map (·.1)) with
    | some ys => if ys.length < 64 then .ok (.lst (sortStr ys)) h else .fail
    | none => .fail
  | none => .fail
theorem keys_strs {K : PySem.W.Frag} {g : Gh} {H : Hp} : ∀ {l : List (Val × Val)} {ks : List (Key × V)} {ys : List (List Nat)}, DR K g H l ks → strsOf (l.map (·.1)) = some ys → ks.map (·.1) = (ys.map sOf).map Sum.inr
  | [], ks, ys, r, e => by
    simp only [List.map_nil, strsOf, Option.some.injEq] at e
    subst e
    rw [r.nilInv]
    rfl
  | p :: l, ks, ys, r, e => by
    obtain ⟨q, ks', rfl, e1, _, t⟩ := r.inv
    simp only [List.map_cons] at e
    cases hp : p.1 with
    | str s =>
      rw [hp] at e e1
      simp only [strsOf, Option.map_eq_some_iff] at e
      obtain ⟨ys', e2, rfl⟩ := e
      simp only [keyOf, Option.some.injEq] at e1
      simp only [List.map_cons, keys_strs t e2, ← e1]
    | _ => rw [hp] at e; simp [strsOf] at e
theorem c1_sortDic (hc : X.calm = true) : C1 X (.builtin "sorted") vSortDic := ⟨_, call_sortedD hc, fun W g H h σ v x Q R r A => by
  unfold vSortDic at A
  split at A
  · rename_i l hl
    split at A
    · rename_i ys hy
      split at A
      · rename_i hz
        obtain ⟨i, a, ks, rfl, rfl, hm, hi, ha, d⟩ := dicOf_ok R r hl
        refine ⟨a, ks, ys.map sOf, rfl, .inl ha, keys_strs d hy, by rw [List.length_map]; exact hz, fun zs p pm so np => ?_⟩
        obtain ⟨E5, R5⟩ := R.grow (o := .lst (zs.map V.str)) np
        refine A g _ (.ref p) E5 R5 ?_
        simp only [VR]
        refine ⟨p, _, rfl, R.fresh np, upd_same, ?_⟩
        rw [sortS_of pm (sorted_pw so)]
        exact VRs_strs _
      · exact A.elim
    · exact A.elim
  · exact A.elim⟩
/-- str(n) -/
def vStrI (v : Val) (h : Hv) : Res Val := match v with
  | .int i => if i.natAbs.log2 < 1920 then .ok (.str (Str.ofString (toString i)).cps.toList) h else .fail
  | _ => .fail
theorem c1_str : C1 X (.type "str") vStrI := ⟨_, call_str_int, fun W g H h σ v x Q R r A => by
  unfold vStrI at A
  split at A
  · split at A
    · rename_i hz
      simp only [VR] at r
      subst r
      refine ⟨_, rfl, hz, A g H _ Ext.refl R ?_⟩
      simp only [VR]
      exact congrArg V.str (by generalize Str.ofString _ = s; cases s; rfl)
    · exact A.elim
  · exact A.elim⟩
/-- x.reverse() -/
def vReverse (x : Val) (h : Hv) : Res Val := match x with
  | .ref i => match h[i]? with
    | some (.lst l) => .ok .non (h.set i (.lst l.reverse))
    | _ => .fail
  | _ => .fail
theorem VRs.rev {K : PySem.W.Frag} {g : Gh} {H : Hp} : ∀ {l : List Val} {xs : List V}, VRs K g H l xs → VRs K g H l.reverse xs.reverse
  | [], xs, r => by rw [show xs = [] from r]; exact VRs.nil
  | v :: l, xs, r => by
    obtain ⟨x, r', rfl, rx, rr⟩ := r
    rw [List.reverse_cons, List.reverse_cons]
    exact (VRs.rev rr).append (.one rx)
theorem ge_reverse {o : Expr} {dx : Den} {apos cpos : Pos} (ho : GE X W o dx) (hbase : attributeBase o "reverse" X.env (eval o X.env) = eval o X.env := by rfl) (hline : (apos.endLine == cpos.line) = true := by rfl) : GE X W (.Call (.Attribute o "reverse" apos) [] [] cpos) (dMeth0 isLst vReverse dx) :=
  ge_meth0 PySem.F.plainAttrs_list PySem.F.slot_list_reverse PySem.F.type_list_reverse mt_reverse (fun g H h v x R r e => lst_ty R r e) (fun W g H h σ v x Q R rv A => by
    unfold vReverse at A
    split at A
    · rename_i i
      split at A
      · rename_i l hl
        simp only [VR] at rv
        obtain ⟨a, rfl, hm⟩ := rv
        obtain ⟨xs, e1, rs⟩ := ref_at R hl hm
        obtain ⟨E, R1⟩ := R.write (ob := .lst l.reverse) (o' := .lst xs.reverse) hm fun E => ⟨_, upd_same, (rs.ext R E).rev⟩
        exact ⟨a, xs, rfl, rfl, e1, A g _ .non E R1 (by simp only [VR])⟩
      · exact A.elim
    · exact A.elim) ho hbase hline
/-- d.pop(k, x) -/
def dPop2 (o e f : Den) : Den := fun l h => (o l h).bind fun x h1 => if isDic h1 x = true then (e l h1).bind fun k h2 => (f l h2).bind fun z h3 => (match x with
  | .ref i => (match h3[i]?, keyOf k with
    | some (.dic m), some _ => (match dGet m k with
      | some v => .ok v (h3.set i (.dic (dDrop m k)))
      | none => .ok z h3)
    | _, _ => .fail)
  | _ => .fail) else .fail
theorem ge_pop2 {o e f : Expr} {dx de df : Den} {apos cpos : Pos} (ho : GE X W o dx) (he : GE X W e de) (hf : GE X W f df) (m : M2 X o "pop" apos e f cpos := by exact ⟨rfl, rfl, rfl, rfl⟩) : GE X W (.Call (.Attribute o "pop" apos) [e, f] [] cpos) (dPop2 dx de df) := by
  refine PE.imp (pe_dpop2 ho he hf m) fun σ H Q ⟨g, l, h, S, R, A⟩ => ?_
  refine tG_of S R A fun v h1 g1 H1 x E S1 R1 r1 A1 => ?_
  split at A1
  · rename_i ok1
    obtain ⟨a, rfl, hd⟩ := dic_is R1 r1 ok1
    refine ⟨a, rfl, hd, ?_⟩
    refine tG_of S1 R1 A1 fun u h2 g2 H2 y E2 S2 R2 r2 A2 => ?_
    refine tG_of S2 R2 A2 fun w h3 g3 H3 z E3 S3 R3 r3 A3 => ?_
    split at A3
    · rename_i i
      split at A3
      · rename_i mm kk hl hk
        have rv := (r1.ext R1 E2).ext R2 E3
        simp only [VR] at rv
        obtain ⟨a', e1, hm⟩ := rv
        cases e1
        obtain ⟨ks, ha, d⟩ := ref_at R3 hl hm
        have ry := r2.ext R2 E3
        obtain ⟨d1, d2⟩ := DR.get hk d
        obtain ⟨E4, R4⟩ := R3.write (ob := .dic (dDrop mm u)) (o' := .dK (dropK ks kk)) hm fun E => ⟨_, upd_same, DR.drop hk ⟨d.1, d.2.ext R3 E⟩⟩
        refine ⟨ks, kk, ha, key_V ry hk, fun v0 hv0 => ?_, fun hn => ?_⟩
        · cases e : dGet mm u with
          | none => rw [d2 e] at hv0; cases hv0
          | some v1 =>
            rw [e] at A3
            obtain ⟨x1, e2, r4⟩ := d1 v1 e
            rw [e2] at hv0
            cases hv0
            exact A3 g3 _ _ E4 R4 (r4.ext R3 E4)
        · cases e : dGet mm u with
          | some v1 =>
            obtain ⟨x1, e2, r4⟩ := d1 v1 e
            rw [e2] at hn
            cases hn
          | none =>
            rw [e] at A3
            exact A3 g3 H3 _ Ext.refl R3 r3
      · exact A3.elim
    · exact A3.elim
  · exact A1.elim
end
end GH
set_option Elab.async false
set_option linter.all false
set_option maxRecDepth 100000
set_option maxHeartbeats 4000000
set_option autoImplicit false
/-! try: body; except C as e: return A if isinstance(e, D) else B. -/
namespace GH
open PySem PySem.Spec PyProof.Rows L2
section
variable {X : Cx} {W : WX}
/-- only C is raised; its instances are (not) instances of D -/
def sTryIs (i : Nat) (c : List Nat) (ans : Bool) (body : Stm) (A B : List Nat) : Stm := fun l h => match body l h with
  | .exc e l1 h1 => if e.c = c ∧ e.fs = [] ∧ i < l1.length then .rt (.str (if ans then A else B)) h1 else .fail
  | r => r
theorem gs_tryIs (c : List Nat) (ans : Bool) (A B : List Nat) {i : Nat} {x y nm xA xB xI : Str} {cy : Value} {body : List Stmt} {np np2 np3 np4 pos pos' pos2 pos3 pos4 rp cp : Pos} {j1 j2 : Nat} {db : Stm}
    (hs : X.stack = X.env :: X.outer) (hf : X.env.frame = some X.env.locals) (hN : X.N.Nodup) (hi : X.N[i]? = some nm) (hln : X.env.kindOf nm = some .local)
    (hc : Names X x (.ref (clsA X.K c))) (tk : Takes X W) (hm : PySem.W.exmOne X.K (.ref (clsA X.K c)) (.ref (clsA X.K c)) = some true) (EC : ExcC X.K (clsA X.K c))
    (hk : PySem.W.kitOne X.K (.ref (clsA X.K c)) cy = some ans) (hmy : X.mg y = some cy) (hcy : ∃ a, cy = .ref a) (hfi : X.mg xI = none) (hgi : Gl X xI) (hgy : Gl X y)
    (hb : ∀ (W' : WX) (pn : List (Addr × Obj)) (xe : Value → Shared → Prop), Takes (X.tr pn xe) W' → PassesOwn (model X.prog X.w) X.A X.env xe → GSs (X.tr pn xe) W' body db)
    (hdy : (y == ("__debug__" : Str)) = false := by decide +kernel) (hdn : (nm == ("__debug__" : Str)) = false := by decide +kernel) (hdc : (nm == ("__classdict__" : Str)) = false := by decide +kernel)
    (hs1 : starEach [.Name nm np2, .Name y np3] X.env = (false, eval (.Name nm np2) X.env) :: starEach [.Name y np3] X.env := by rfl) (hs2 : starEach [.Name y np3] X.env = (false, eval (.Name y np3) X.env) :: starEach [] X.env := by rfl)
    (hpl : (backTo cp (starEach [.Name y np3] X.env)).any (·.1) = false := by rfl) (hA : xA = sOf A := by rfl) (hB : xB = sOf B := by rfl) (hI : xI = ("isinstance" : Str) := by rfl) :
    GS X W (.Try body [.ExceptHandler (some (.Name x np)) (some nm) [.Return (some (.IfExp (.Call (.Name xI np4) [.Name nm np2, .Name y np3] [] cp) (.Constant (.str xA) j1 pos2) (.Constant (.str xB) j2 pos3) rp)) pos4] pos'] [] [] pos) (sTryIs i c ans db A B) := by
  subst hA hB hI
  refine PS.imp (ps_try_as (i := i) (tb := fun W' => tS X.K W' db)
    (ts := fun a cls d => fun D σ H => cls = .ref (clsA X.K c) ∧ d = none ∧ σ[i]? = some (some (.ref a)) ∧ D.rt (.str (sOf (if ans then A else B))) H) hs hf hN hi hln hc tk hb (fun a oe cls d pn hz hfd => ?_)) fun D σ H ⟨g, l, h, S, R, AA⟩ => ?_
  · refine ⟨fun pins s σ H D I ⟨e1, e2, e3, q⟩ => ?_⟩
    subst e1 e2
    obtain ⟨ay, rfl⟩ := hcy
    have hy : PE (X.suite a ((a, oe) :: pn)) (.Name y np3) (tC (.ref ay)) := pe_glob hgy hmy rfl hdy
    have hv : PE (X.suite a ((a, oe) :: pn)) (.Name nm np2) (tVar i) := pe_var hi (.inl hln) hdn hdc
    have ht := pe_callB (X := X.suite a ((a, oe) :: pn)) (p := np4) (pos := cp) (call_isE (pn := pn) EC hz hfd) hgi hfi (by decide +kernel) (pa_cons hv (pa_cons hy pa_nil hs2) hs1) (by decide +kernel) (by decide +kernel) hs1 hpl
    refine (pss_one (ps_ret (pe_ifExp (pt_val ht) pe_str pe_str))).run pins s σ H D I ?_
    refine ⟨_, e3, ?_⟩
    refine ⟨_, _, ans, rfl, ?_, hk, ?_⟩
    · intro u hu; exact hu
    · refine ⟨ans, rfl, ?_⟩
      cases ans with
      | true => exact q
      | false => exact q
  · refine ⟨g, l, h, S, R, ?_⟩
    unfold sTryIs at AA
    cases e : db l h with
    | nx l1 h1 => rw [e] at AA; exact AA
    | bk l1 h1 => rw [e] at AA; exact AA
    | ct l1 h1 => rw [e] at AA; exact AA
    | rt l1 h1 => rw [e] at AA; exact AA
    | fail => rw [e] at AA; exact AA
    | exc x1 l1 h1 =>
      rw [e] at AA
      simp only at AA
      split at AA
      · rename_i hcc
        intro g' H' σ' cls d E R' S' re
        obtain ⟨k1, k2⟩ := re
        rw [hcc.1] at k1
        rw [hcc.2.1] at k2
        simp only at k2
        subst k1 k2
        have hlen : i < σ'.length := by rw [← S'.len]; exact hcc.2.2
        refine ⟨true, hm, fun _ a na => ⟨rfl, rfl, by rw [List.getElem?_set_self hlen], ?_⟩, fun z => by cases z⟩
        exact AA g' H' _ E R' (by simp only [VR])
      · exact AA.elim
end
end GH
set_option Elab.async false
set_option linter.all false
set_option maxRecDepth 100000
set_option maxHeartbeats 4000000
set_option autoImplicit false
/-! what the head tells of tuples of texts, of classes of exceptions. -/
namespace GH
open PySem PySem.Spec PyProof.Rows L2
theorem VRs_txt {K : PySem.W.Frag} {g : Gh} {H : Hp} : ∀ ws : List (List Nat), VRs K g H (ws.map .str) ((ws.map fun s => He.Dv.str (sOf s)).map (He.Dv.v K))
  | [] => VRs.nil
  | w :: ws => VRs.cons (by simp only [VR]; rfl) (VRs_txt ws)
theorem tup_txt {K : PySem.W.Frag} {x : Str} (ws : List (List Nat)) (h : He.tupB K x (ws.map fun s => He.Dv.str (sOf s)) = true) (g : Gh) (H : Hp) : VR K g H (.tup (ws.map .str)) (.ref (He.ga K x)) := by
  simp only [VR]
  exact ⟨_, _, rfl, He.tupB_ok h H, VRs_txt ws⟩
def excCB (K : PySem.W.Frag) (D : Addr) : Bool :=
  decide (PySem.W.findIn K (.ref D) "__getattribute__" = some (some (.builtin "BaseException.__getattribute__"))) && decide (PySem.W.findIn K (.ref D) "__getattr__" = some none) && decide (PySem.W.subIn K (.ref D) (.type "BaseException") = some true) &&
  PySem.W.hasDictIn K D && decide (PySem.W.findIn K (.ref D) "__class__" = some (some (.builtin "object.__class__"))) && decide (PySem.W.specialIn K (.builtin "object.__class__") "__get__" = some (some (.builtin "getset_descriptor.__get__"))) &&
  decide (PySem.W.takesIn K (.builtin "object.__class__") = some true) && decide (PySem.W.mroIn K D (.type "object") = some true)
theorem excCB_ok {K : PySem.W.Frag} {D : Addr} (h : excCB K D = true) : ExcC K D := by
  unfold excCB at h
  simp only [Bool.and_eq_true, decide_eq_true_eq] at h
  obtain ⟨⟨⟨⟨⟨⟨⟨h1, h2⟩, h3⟩, h4⟩, h5⟩, h6⟩, h7⟩, h8⟩ := h
  exact ⟨h1, h2, h3, h4, h5, h6, h7, h8⟩
def kitB (K : PySem.W.Frag) (C D : Addr) (b : Bool) : Bool := decide (PySem.W.kitOne K (.ref C) (.ref D) = some b)
theorem kitB_ok' {K : PySem.W.Frag} {C D : Addr} {b : Bool} (h : kitB K C D b = true) : PySem.W.kitOne K (.ref C) (.ref D) = some b := of_decide_eq_true h
end GH
set_option Elab.async false
set_option linter.all false
set_option maxRecDepth 100000
set_option maxHeartbeats 1000000
set_option autoImplicit false
/-! lists of texts, sorted; results as equations. -/
namespace GH
open PySem
abbrev Tx := List Nat
theorem eq_of {α : Type} {r : Res α} {a : α} {h : Hv} (k : ok r fun v h' => v = a ∧ h' = h) : r = .ok a h := by
  obtain ⟨v, h', e, rfl, rfl⟩ := ok_eq k
  exact e
@[simp] theorem sOf_cps (s : Tx) : (sOf s).cps.toList = s := rfl
theorem cps_sOf (s : Str) : sOf s.cps.toList = s := by cases s; rfl
def srt (L : List Tx) : List Tx := ((L.map sOf).mergeSort leS).map fun s => s.cps.toList
theorem sortStr_srt (L : List Tx) : sortStr L = (srt L).map .str := by simp [sortStr, srt]
theorem srt_sOf (L : List Tx) : (srt L).map sOf = (L.map sOf).mergeSort leS := by
  simp only [srt, List.map_map]
  conv => rhs; rw [← List.map_id ((L.map sOf).mergeSort leS)]
  rfl
theorem map_sOf_inj {A B : List Tx} (e : A.map sOf = B.map sOf) : A = B := List.map_inj_right (fun _ _ e => sOf_inj e) |>.mp e
theorem srt_perm {A B : List Tx} (p : A.Perm B) : srt A = srt B := by
  unfold srt
  rw [sortS_perm (p.map sOf)]
theorem srt_perm_self (A : List Tx) : (srt A).Perm A := by
  have p := List.mergeSort_perm (A.map sOf) leS
  rw [← srt_sOf] at p
  have q := p.map fun s => s.cps.toList
  simpa [List.map_map, Function.comp_def] using q
theorem srt_mem {A : List Tx} {x : Tx} : x ∈ srt A ↔ x ∈ A := (srt_perm_self A).mem_iff
theorem srt_len (A : List Tx) : (srt A).length = A.length := (srt_perm_self A).length_eq
theorem srt_nodup {A : List Tx} (n : A.Nodup) : (srt A).Nodup := (srt_perm_self A).nodup_iff.mpr n
theorem srt_nil : srt [] = [] := List.length_eq_zero_iff.mp (srt_len [])
theorem srt_id {A : List Tx} (h : (A.map sOf).Pairwise fun a b => leS a b = true) : srt A = A := by
  apply map_sOf_inj
  rw [srt_sOf]
  exact (sortS_of (List.Perm.refl _) h).symm
/-- lists of different texts with the same ones -/
theorem srt_same {A B : List Tx} (na : A.Nodup) (nb : B.Nodup) (h : ∀ x, x ∈ A ↔ x ∈ B) : srt A = srt B := srt_perm ((List.perm_ext_iff_of_nodup na nb).mpr h)
theorem strsOf_map : ∀ L : List Tx, strsOf (L.map .str) = some L
  | [] => rfl
  | x :: L => by simp [strsOf, strsOf_map L]
abbrev TxOk (L : List Tx) : Prop := ∀ x ∈ L, okV (.str x) = true
theorem okVs_txt : ∀ {L : List Tx}, TxOk L → okVs (L.map .str) = true
  | [], _ => rfl
  | x :: L, h => by
    simp only [List.map_cons, okVs, h x (List.mem_cons_self ..), okVs_txt fun y hy => h y (List.mem_cons_of_mem _ hy), Bool.and_self]
theorem dpVs_txt : ∀ L : List Tx, dpVs (L.map .str) = 0
  | [] => rfl
  | x :: L => by simp [dpVs, dpV, dpVs_txt L]
theorem vSorted_txt {L : List Tx} (o : TxOk L) (h : Hv) : vSorted (.lst (L.map .str)) h = .ok (.lst ((srt L).map .str)) h := by
  have ok : sortOk (L.map .str) = true := by
    unfold sortOk
    rw [okVs_txt o, dpVs_txt]
    have h3 : ((L.map Val.str).all fun a => (L.map Val.str).all fun b => PySem.W.alike (pd a) (pd b)) = true := by
      refine List.all_eq_true.mpr fun a ha => List.all_eq_true.mpr fun b hb => ?_
      obtain ⟨p, _, rfl⟩ := List.mem_map.mp ha
      obtain ⟨q, _, rfl⟩ := List.mem_map.mp hb
      simp [pd, PySem.W.alike]
    have h4 : ((L.map Val.str).all isPlainK) = true := List.all_eq_true.mpr fun a ha => by
      obtain ⟨p, _, rfl⟩ := List.mem_map.mp ha
      rfl
    rw [h3, h4]
    simp
  have e : sortV (L.map .str) = (srt L).map .str := by
    unfold sortV
    have q := PySem.W.dataLe_str sOf
    have m : (L.mergeSort fun a b => leS (sOf a) (sOf b)).map Val.str = (L.map Val.str).mergeSort (PySem.W.dataLe false pd) := List.map_mergeSort fun a ha b hb => by
      have z := congrFun (congrFun q a) b
      rw [show leS (sOf a) (sOf b) = decide ((sOf a).cps.toList ≤ (sOf b).cps.toList) from rfl, ← z]
      rfl
    rw [← m]
    congr 1
    apply map_sOf_inj
    rw [srt_sOf]
    exact List.map_mergeSort fun a ha b hb => rfl
  simp [vSorted, lstOf, ok, e]
theorem addS_mem {L : List Str} {x y : Str} : y ∈ addS L x ↔ y ∈ L ∨ y = x := by
  unfold addS
  split
  · rename_i h
    constructor
    · exact .inl
    · rintro (q | rfl)
      · exact q
      · exact h
  · simp
theorem ddS_aux : ∀ (xs L : List Str), L.Nodup → (xs.foldl addS L).Nodup ∧ ∀ y, y ∈ xs.foldl addS L ↔ y ∈ L ∨ y ∈ xs
  | [], L, n => ⟨n, by simp⟩
  | x :: xs, L, n => by
    have n2 : (addS L x).Nodup := by
      unfold addS
      split
      · exact n
      · rename_i h
        refine List.nodup_append.mpr ⟨n, by simp, ?_⟩
        intro a ha b hb
        rw [List.mem_singleton.mp hb]
        rintro rfl
        exact h ha
    obtain ⟨a, b⟩ := ddS_aux xs (addS L x) n2
    refine ⟨a, fun y => ?_⟩
    rw [List.foldl_cons, b, addS_mem, List.mem_cons, or_assoc]
theorem vSortSet_txt {L M : List Tx} {v : Val} {h : Hv} (e : seqOf h v = some (L.map .str)) (n : L.length < 4000) (nd : M.Nodup) (hm : ∀ x, x ∈ M ↔ x ∈ L) : vSortSet v h = .ok (.lst ((srt M).map .str)) h := by
  have z : sortSet L = (srt M).map .str := by
    unfold sortSet
    obtain ⟨a, b⟩ := ddS_aux (L.map sOf) [] .nil
    have p : (ddS (L.map sOf)).Perm (M.map sOf) := by
      refine (List.perm_ext_iff_of_nodup a ?_).mpr fun y => ?_
      · exact List.pairwise_map.mpr (nd.imp fun ne e => ne (sOf_inj e))
      · rw [b]
        simp only [List.not_mem_nil, false_or, List.mem_map]
        constructor
        · rintro ⟨x, hx, rfl⟩; exact ⟨x, (hm x).mpr hx, rfl⟩
        · rintro ⟨x, hx, rfl⟩; exact ⟨x, (hm x).mp hx, rfl⟩
    rw [sortS_perm p, ← srt_sOf, List.map_map]
    congr 1
  simp [vSortSet, e, strsOf_map, n, z]
theorem vSortDic_txt {l : List (Val × Val)} {i : Nat} {L : List Tx} {h : Hv} (e : h[i]? = some (.dic l)) (k : l.map (·.1) = L.map .str) (n : L.length < 64) : vSortDic (.ref i) h = .ok (.lst ((srt L).map .str)) h := by
  simp only [vSortDic, dicOf, e, k, strsOf_map, n, if_true, sortStr_srt]
theorem inSeq_txt (x : Tx) (L : List Tx) : inSeq (.str x) (L.map .str) = decide (x ∈ L) := by
  unfold inSeq
  induction L with
  | nil => rfl
  | cons a s ih =>
    simp only [List.map_cons, List.any_cons, ih, veq_str]
    by_cases h1 : a = x <;> by_cases h2 : x ∈ s <;> simp [h1, h2, eq_comm]
    intro e; exact absurd e.symm h1
theorem inOk_txt {x : Tx} {L : List Tx} (ox : okV (.str x) = true) (o : TxOk L) : inOk (.str x) (L.map .str) = true := by
  unfold inOk
  rw [ox, okVs_txt o, dpVs_txt]
  simp
section
variable {x : Tx} {L : List Tx} (ox : okV (.str x) = true) (o : TxOk L) (h : Hv)
include ox o
theorem vIn_tupTxt : vIn (.str x) (.tup (L.map .str)) h = .ok (.bl (decide (x ∈ L))) h := by
  simp only [vIn, isIn, seqOf, thaw, inOk_txt ox o, if_true, inSeq_txt, Res.bind_ok]
theorem vIn_lstTxt : vIn (.str x) (.lst (L.map .str)) h = .ok (.bl (decide (x ∈ L))) h := by
  simp only [vIn, isIn, seqOf, lstOf, thaw, inOk_txt ox o, if_true, inSeq_txt, Res.bind_ok]
theorem vNotIn_tupTxt : vNotIn (.str x) (.tup (L.map .str)) h = .ok (.bl (!decide (x ∈ L))) h := by
  simp only [vNotIn, isIn, seqOf, thaw, inOk_txt ox o, if_true, inSeq_txt, Res.bind_ok]
theorem vNotIn_lstTxt : vNotIn (.str x) (.lst (L.map .str)) h = .ok (.bl (!decide (x ∈ L))) h := by
  simp only [vNotIn, isIn, seqOf, lstOf, thaw, inOk_txt ox o, if_true, inSeq_txt, Res.bind_ok]
end
@[simp] theorem vNe_str (a b : Tx) (h : Hv) : vNe (.str a) (.str b) h = .ok (.bl (!decide (a = b))) h := nrfl rfl
@[simp] theorem vNe_int (a b : Int) (h : Hv) : vNe (.int a) (.int b) h = .ok (.bl (!decide (a = b))) h := nrfl rfl
theorem vEq_lnil (L : List Val) (o : okVs L = true) (h : Hv) : vEq (.lst L) (.lst []) h = .ok (.bl L.isEmpty) h ∧ vNe (.lst L) (.lst []) h = .ok (.bl (!L.isEmpty)) h := by
  cases L with
  | nil => exact ⟨rfl, rfl⟩
  | cons a l =>
    simp only [okVs] at o
    constructor
    · simp only [vEq, thaw, eqOk, okV, okVs, dpV, dpVs, o, Bool.and_true, Bool.true_and]
      rw [if_pos (by simp)]
      rfl
    · simp only [vNe, thaw, eqOk, okV, okVs, dpV, dpVs, o, Bool.and_true, Bool.true_and]
      rw [if_pos (by simp)]
      rfl
/-! words asked -/
section
variable {l : GH.Loc} {h : Hv} {i : Nat} {w : Tx} {c : Bool}
theorem inT (L : List Tx) (hl : l[i]? = some (some (.str w))) (ow : okV (.str w) = true) (o : TxOk L) (d : decide (w ∈ L) = c) : dB (dBin vIn (dVar i) (dC (.tup (L.map .str)))) l h = .ok c h := by
  simp only [e_b, e_bin, dVar, hl, Res.bind_ok, e_c, vIn_tupTxt ow o, resB_bl, d]
/-- d has the text w -/
theorem inTd {dd : Den} (L : List Tx) (hl : dd l h = .ok (.str w) h) (ow : okV (.str w) = true) (o : TxOk L) (d : decide (w ∈ L) = c) : dB (dBin vIn dd (dC (.tup (L.map .str)))) l h = .ok c h := by
  simp only [e_b, e_bin, hl, Res.bind_ok, e_c, vIn_tupTxt ow o, resB_bl, d]
def strsD : List Tx → DenG (List Val)
  | [] => dNil
  | a :: r => dCons (dC (.str a)) (strsD r)
theorem strsD_run (l : GH.Loc) (h : Hv) : ∀ ws : List Tx, strsD ws l h = .ok (ws.map .str) h
  | [] => rfl
  | a :: r => by simp [strsD, strsD_run l h r]
theorem inLd {dd : Den} (L : List Tx) (hl : dd l h = .ok (.str w) h) (n : L.length ≤ 100) (ow : okV (.str w) = true) (o : TxOk L) (d : decide (w ∈ L) = c) : dB (dBin vIn dd (dLst (strsD L))) l h = .ok c h := by
  simp only [e_b, e_bin, hl, Res.bind_ok, e_lst, strsD_run]
  rw [mkL_ok (by simp; omega)]
  simp only [Res.bind_ok, vIn_lstTxt ow o, resB_bl, d]
theorem eqT {dd : Den} {u : Tx} (hl : dd l h = .ok (.str w) h) (d : decide (w = u) = c) : dB (dBin vEq dd (dC (.str u))) l h = .ok c h := by
  simp only [e_b, e_bin, hl, Res.bind_ok, e_c, vEq_str, resB_bl, d]
end
theorem vMax_ints {L : List Int} {m : Int} (e : L.max? = some m) (h : Hv) : vMax (.lst (L.map .int)) h = .ok (.int m) h := by
  have z : ∀ L : List Int, intsOf (L.map .int) = some L := fun L => by
    induction L with
    | nil => rfl
    | cons a L ih => simp [intsOf, ih]
  simp [vMax, lstOf, z, e]
theorem if2_ {t : DenG Bool} {a b rest : Stm} {l : GH.Loc} {h : Hv} {P : Post} {c : Bool} (e : t l h = .ok c h) (z1 : c = true → sok (a l h) { P with nx := fun l h => sok (rest l h) P }) (z2 : c = false → sok (b l h) { P with nx := fun l h => sok (rest l h) P }) : sok (sSeq (sIf t a b) rest l h) P := by
  rw [e_seq, sok_then]
  simp only [e_if, e, Res.to_ok]
  cases c with
  | true => simpa using z1 rfl
  | false => simpa using z2 rfl
theorem expr_ {d : Den} {rest : Stm} {l : GH.Loc} {h h1 : Hv} {v : Val} {P : Post} (e : d l h = .ok v h1) (z : sok (rest l h1) P) : sok (sSeq (sExpr d) rest l h) P := by
  rw [e_seq, sok_then, e_expr, e]
  exact z
theorem lcL_filL {α : Type} (V : α → Val) (F : α → Bool) (G : α → Val) {t : Tg} {c : DenG Bool} {e : Den} {s : Src} {l : GH.Loc} {h : Hv} (hs : srcOk s h) : ∀ (L : List α) (acc : List Val), (∀ p ∈ L, ∃ l1, t (V p) l h = .ok l1 h ∧ c l1 h = .ok (F p) h ∧ (F p = true → e l1 h = .ok (G p) h)) → lcL t c e s (L.map V) acc l h = .ok (acc ++ (L.filter F).map G) h
  | [], acc, _ => by simp [lcL, hs]
  | x :: r, acc, q => by
    obtain ⟨l1, e1, e2, e3⟩ := q x (List.mem_cons_self ..)
    have ih := fun acc => lcL_filL V F G (t := t) (c := c) (e := e) (l := l) hs r acc fun y hy => q y (List.mem_cons_of_mem _ hy)
    simp only [List.map_cons, lcL, if_pos hs, e1, e2]
    cases ef : F x with
    | true => simp [e3 ef, ih, ef]
    | false => simp [ih, ef]
theorem lcL_mapL {α : Type} (V : α → Val) (G : α → Val) {t : Tg} {e : Den} {s : Src} {l : GH.Loc} {h : Hv} (hs : srcOk s h) (L : List α) (acc : List Val) (q : ∀ p ∈ L, ∃ l1, t (V p) l h = .ok l1 h ∧ e l1 h = .ok (G p) h) : lcL t dYes e s (L.map V) acc l h = .ok (acc ++ L.map G) h := by
  rw [lcL_filL V (fun _ => true) G hs L acc fun p hp => ?_]
  · rw [List.filter_eq_self.mpr fun _ _ => rfl]
  · obtain ⟨l1, e1, e2⟩ := q p hp
    exact ⟨l1, e1, rfl, fun _ => e2⟩
theorem dif_ {t : DenG Bool} {a b : Den} {l : GH.Loc} {h h1 : Hv} {P : Val → Hv → Prop} {c : Bool} (e : t l h = .ok c h1) (z1 : c = true → ok (a l h1) P) (z2 : c = false → ok (b l h1) P) : ok (dIf t a b l h) P := by
  rw [e_dif, e]
  cases c with
  | true => simpa using z1 rfl
  | false => simpa using z2 rfl
end GH
set_option Elab.async false
set_option linter.all false
set_option maxRecDepth 100000
set_option maxHeartbeats 4000000
set_option autoImplicit false
/-! objects of the program's classes: attributes, methods, makers. -/
namespace GH
open PySem PySem.Spec PyProof.Rows L2
def fput (f : Tx) (v : Val) : List (Tx × Val) → List (Tx × Val)
  | [] => [(f, v)]
  | (g, x) :: r => if g = f then (g, v) :: r else (g, x) :: fput f v r
def fget (f : Tx) : List (Tx × Val) → Option Val
  | [] => none
  | (g, x) :: r => if g = f then some x else fget f r
section
variable {K : PySem.W.Frag} {g : Gh} {H : Hp}
theorem FR.inv {p : Tx × Val} {fs : List (Tx × Val)} {gs : List (Str × V)} (r : FR K g H (p :: fs) gs) : ∃ x gs', gs = (sOf p.1, x) :: gs' ∧ VR K g H p.2 x ∧ FR K g H fs gs' := by
  obtain ⟨e, r⟩ := r
  cases gs with
  | nil => cases e
  | cons q gs' =>
    simp only [List.map_cons, List.cons.injEq] at e
    simp only [List.map_cons, VRs] at r
    obtain ⟨x, r', e2, r1, r2⟩ := r
    obtain ⟨e3, e4⟩ := List.cons.inj e2
    refine ⟨q.2, gs', by rw [← e.1], by rw [e3]; exact r1, e.2, by rw [e4]; exact r2⟩
theorem FR.nilInv {gs : List (Str × V)} (r : FR K g H [] gs) : gs = [] := by
  cases gs with
  | nil => rfl
  | cons q gs' => cases r.1
theorem FR.cons {p : Tx × Val} {fs : List (Tx × Val)} {x : V} {gs : List (Str × V)} (r : VR K g H p.2 x) (t : FR K g H fs gs) : FR K g H (p :: fs) ((sOf p.1, x) :: gs) :=
  ⟨by simp only [List.map_cons, t.1], by simp only [List.map_cons]; exact VRs.cons r t.2⟩
theorem FR.length {fs : List (Tx × Val)} {gs : List (Str × V)} (r : FR K g H fs gs) : gs.length = fs.length := by
  have := congrArg List.length r.1
  simpa using this
theorem FR.get {f : Tx} : ∀ {fs : List (Tx × Val)} {gs : List (Str × V)}, FR K g H fs gs → (∀ v, fget f fs = some v → ∃ x, gs.lookup (sOf f) = some x ∧ VR K g H v x) ∧ (fget f fs = none → gs.lookup (sOf f) = none)
  | [], gs, r => by rw [r.nilInv]; exact ⟨(fun v e => by cases e), (fun _ => rfl)⟩
  | p :: fs, gs, r => by
    obtain ⟨x, gs', rfl, r1, r2⟩ := r.inv
    obtain ⟨a, b⟩ := FR.get (f := f) r2
    obtain ⟨pf, pv⟩ := p
    unfold fget
    by_cases h : pf = f
    · subst h
      simp only [if_true]
      refine ⟨fun v e => ?_, fun e => by cases e⟩
      cases e
      exact ⟨x, by simp [List.lookup], r1⟩
    · have h2 : (sOf f == sOf pf) = false := by
        simp only [beq_eq_false_iff_ne, ne_eq]
        exact fun e => h (sOf_inj e).symm
      simp only [if_neg h, List.lookup, h2]
      exact ⟨a, b⟩
theorem FR.put {f : Tx} {v : Val} {x : V} (rx : VR K g H v x) : ∀ {fs : List (Tx × Val)} {gs : List (Str × V)}, FR K g H fs gs → FR K g H (fput f v fs) (putF (sOf f) x gs)
  | [], gs, r => by rw [r.nilInv]; exact FR.cons (p := (f, v)) rx ⟨rfl, VRs.nil⟩
  | p :: fs, gs, r => by
    obtain ⟨y, gs', rfl, r1, r2⟩ := r.inv
    obtain ⟨pf, pv⟩ := p
    unfold fput putF
    by_cases h : pf = f
    · subst h
      rw [if_pos rfl, if_pos rfl]
      exact FR.cons (p := (pf, v)) rx r2
    · rw [if_neg h, if_neg fun e => h (sOf_inj e)]
      exact FR.cons (p := (pf, pv)) r1 (FR.put rx r2)
end
/-- the object that v is, of the class c -/
def insOf (c : Tx) (h : Hv) (v : Val) : Option (Nat × List (Tx × Val)) := match v with
  | .ref i => match h[i]? with
    | some (.ins c' fs) => if c' = c then some (i, fs) else none
    | _ => none
  | _ => none
section
variable {X : Cx} {W : WX}
theorem insOf_ok {K : PySem.W.Frag} {g : Gh} {H : Hp} {h : Hv} {v : Val} {x : V} {c : Tx} {i : Nat} {fs : List (Tx × Val)} (R : HR K g H h) (r : VR K g H v x) (e : insOf c h v = some (i, fs)) :
    v = .ref i ∧ ∃ a dx gs, x = .ref a ∧ g.m[i]? = some a ∧ H a = some (.ins (clsA K c) dx gs) ∧ FR K g H fs gs := by
  unfold insOf at e
  split at e
  · rename_i j
    split at e
    · rename_i c' fs' he
      split at e
      · rename_i hc
        subst hc
        cases e
        simp only [VR] at r
        obtain ⟨a, rfl, hm⟩ := r
        obtain ⟨dx, gs, e1, e2⟩ := ref_at R he hm
        exact ⟨rfl, a, dx, gs, rfl, hm, e1, e2⟩
      · cases e
    · cases e
  · cases e
/-- o.f -/
def dFld (c f : Tx) (o : Den) : Den := fun l h => (o l h).bind fun v h1 => match insOf c h1 v with
  | some (_, fs) => (match fget f fs with
    | some w => .ok w h1
    | none => .fail)
  | none => .fail
theorem ge_fld (c f : Tx) {o : Expr} {d : Den} {x : Str} {pos : Pos} (ho : GE X W o d) (cl : Cls X.K (clsA X.K c)) (n : NoAttr X.K (clsA X.K c) (sOf f)) (hx : x = sOf f := by decide +kernel) (hb : attributeBase o x X.env (eval o X.env) = eval o X.env := by rfl) : GE X W (.Attribute o x pos) (dFld c f d) := by
  subst hx
  refine PE.imp (pe_fld ho hb) fun σ H Q ⟨g, l, h, S, R, A⟩ => ?_
  refine tG_of S R A fun v h1 g1 H1 x E S1 R1 r1 A1 => ?_
  split at A1
  · rename_i i fs e
    obtain ⟨rfl, a, dx, gs, rfl, hm, ha, fr⟩ := insOf_ok R1 r1 e
    split at A1
    · rename_i w ew
      obtain ⟨y, e1, r2⟩ := (FR.get fr).1 w ew
      exact ⟨a, _, dx, gs, y, rfl, ha, cl, n, e1, A1 g1 H1 y Ext.refl R1 r2⟩
    · exact A1.elim
  · exact A1.elim
/-- o.f as a target -/
def gFld (c f : Tx) (o : Den) : Tg := fun v l h => (o l h).toT l fun x h1 => match insOf c h1 x with
  | some (i, fs) => if fs.length < 1000 then .ok l (h1.set i (.ins c (fput f v fs))) else .fail
  | none => .fail
def gFldT (K : PySem.W.Frag) (to : TE) (f : Str) : TG := fun v σ H Q => to σ H fun x H1 => ∃ a C dx fs, x = .ref a ∧ H1 a = some (.ins C dx fs) ∧ Cls K C ∧ NoAttr K C f ∧ fs.length < 1000 ∧ Q σ (upd H1 a (.ins C dx (putF f v fs)))
theorem pg_fld {o : Expr} {to : TE} {f : Str} {pos : Pos} (ho : PE X o to) (ha : ∀ v, assign (.Attribute o f pos) X.env v = (do
      let ov ← holding [v] (eval o X.env)
      standAt pos.atName
      holding [v, ov] (setAttr ov f v)
      release [v, ov] []) := by intro _; rfl) : PG X (.Attribute o f pos) (gFldT X.K to f) := by
  refine ⟨fun pins s σ H v u Q I r h => ?_⟩
  rw [ha]
  refine wpAny_bind (wpAny_holding (thn (ho.run pins s σ H _ I h) fun ov s1 ⟨x, H1, I1, r1, a, C, dx, fs, ex, ea, c, n, l, q1⟩ => ?_))
  subst ex
  obtain rfl : ov = Value.ref a := r1
  refine wpAny_bind (wpAny_standAt (wpAny_bind (wpAny_holding (setattr_ok I1 ea c n l r fun s3 I3 => ?_))))
  exact wpAny_release ⟨σ, _, I3, q1⟩
theorem HR.writeIns {K : PySem.W.Frag} {g : Gh} {H : Hp} {h : Hv} (R : HR K g H h) {c f : Tx} {i : Nat} {a dx : Addr} {fs : List (Tx × Val)} {gs : List (Str × V)} {v : Val} {x : V} (hm : g.m[i]? = some a) (fr : FR K g H fs gs) (rx : VR K g H v x) :
    Ext g H g (upd H a (.ins (clsA K c) dx (putF (sOf f) x gs))) ∧ HR K g (upd H a (.ins (clsA K c) dx (putF (sOf f) x gs))) (h.set i (.ins c (fput f v fs))) :=
  R.write (ob := .ins c (fput f v fs)) (o' := .ins (clsA K c) dx (putF (sOf f) x gs)) hm fun E => ⟨dx, _, upd_same, FR.put (rx.ext R E) ⟨fr.1, fr.2.ext R E⟩⟩
theorem gg_fld (c f : Tx) {o : Expr} {d : Den} {x : Str} {pos : Pos} (ho : GE X W o d) (cl : Cls X.K (clsA X.K c)) (n : NoAttr X.K (clsA X.K c) (sOf f)) (hx : x = sOf f := by decide +kernel) (ha : ∀ v, assign (.Attribute o x pos) X.env v = (do
      let ov ← holding [v] (eval o X.env)
      standAt pos.atName
      holding [v, ov] (setAttr ov x v)
      release [v, ov] []) := by intro _; rfl) : GG X W (.Attribute o x pos) (gFld c f d) := by
  subst hx
  refine PG.imp (pg_fld ho ha) fun y σ H Q ⟨g, l, h, v, S, R, r, A⟩ => ?_
  refine tG_T S R A fun x h1 g1 H1 x' E S1 R1 r1 A1 => ?_
  split at A1
  · rename_i i fs e
    obtain ⟨rfl, a, dx, gs, rfl, hm, ha, fr⟩ := insOf_ok R1 r1 e
    split at A1
    · rename_i hl
      obtain ⟨E2, R2⟩ := R1.writeIns (c := c) (f := f) (dx := dx) hm fr (r.ext R E)
      exact ⟨a, _, dx, gs, rfl, ha, cl, n, by rw [fr.length]; exact hl, A1 g1 _ σ E2 R2 (S1.ext R1 E2)⟩
    · exact A1.elim
  · exact A1.elim
/-- o.f = e -/
theorem gs_fld (c f : Tx) {o e : Expr} {d de : Den} {x : Str} {pos pos' : Pos} (he : GE X W e de) (ho : GE X W o d) (cl : Cls X.K (clsA X.K c)) (n : NoAttr X.K (clsA X.K c) (sOf f)) (hx : x = sOf f := by decide +kernel) (hs : swapsWith e (some (.Attribute o x pos')) pos.line X.env = pure false := by rfl) :
    GS X W (.Assign [.Attribute o x pos'] e pos) (sAsg de (gFld c f d)) := by
  subst hx
  refine PS.imp (ps_fld ho he hs) fun D σ H ⟨g, l, h, S, R, A⟩ => ?_
  refine tG_to S R A fun y h1 g1 H1 y' E S1 R1 ry A1 => ?_
  unfold gFld at A1
  cases eo : d l h1 with
  | ok x h2 =>
    rw [eo] at A1
    refine ⟨g1, l, h1, S1, R1, ?_⟩
    rw [eo]
    intro g2 H2 x' E2 R2 rx
    simp only [Res.toT_ok] at A1
    cases ei : insOf c h2 x with
    | none => rw [ei] at A1; exact A1.elim
    | some q =>
      obtain ⟨i, fs⟩ := q
      rw [ei] at A1
      simp only at A1
      obtain ⟨rfl, a, dx, gs, rfl, hm, ha, fr⟩ := insOf_ok R2 rx ei
      split at A1
      · rename_i hl
        obtain ⟨E3, R3⟩ := R2.writeIns (c := c) (f := f) (dx := dx) hm fr (ry.ext R1 E2)
        exact ⟨a, _, dx, gs, rfl, ha, cl, n, by rw [fr.length]; exact hl, A1 g2 _ σ (E2.trans E3) R3 (S1.ext R1 (E2.trans E3))⟩
      · exact A1.elim
  | exc x h2 =>
    rw [eo] at A1
    refine ⟨g1, l, h1, S1, R1, ?_⟩
    rw [eo]
    exact fun g2 H2 cls dd E2 R2 re => A1 g2 H2 σ cls dd E2 R2 (S1.ext R1 E2) re
  | fail => rw [eo] at A1; exact A1.elim
/-- o.f += e, whole numbers -/
def sFldAug (c f : Tx) (o e : Den) : Stm := fun l h => (o l h).to l fun x h1 => match insOf c h1 x with
  | some (_, fs) => (match fget f fs with
    | some (.int i) => (e l h1).to l fun y h2 => (match y with
      | .int j => (match insOf c h2 x with
        | some (k, fs') => if fs'.length < 1000 then .nx l (h2.set k (.ins c (fput f (.int (i + j)) fs'))) else .fail
        | none => .fail)
      | _ => .fail)
    | _ => .fail)
  | none => .fail
theorem gs_fldaug (c f : Tx) {o e : Expr} {d de : Den} {x : Str} {pos tpos : Pos} (ho : GE X W o d) (he : GE X W e de) (cl : Cls X.K (clsA X.K c)) (n : NoAttr X.K (clsA X.K c) (sOf f)) (hx : x = sOf f := by decide +kernel) :
    GS X W (.AugAssign (.Attribute o x tpos) .Add e pos) (sFldAug c f d de) := by
  subst hx
  refine PS.imp (ps_fldaug ho he in_add) fun D σ H ⟨g, l, h, S, R, A⟩ => ?_
  refine tG_to S R A fun x h1 g1 H1 x' E S1 R1 r1 A1 => ?_
  split at A1
  · rename_i q fs e0
    obtain ⟨rfl, a, dx, gs, rfl, hm, ha, fr⟩ := insOf_ok R1 r1 e0
    split at A1
    · rename_i i ei
      obtain ⟨y, e1, r2⟩ := (FR.get fr).1 _ ei
      simp only [VR] at r2
      subst r2
      refine ⟨a, _, dx, gs, _, rfl, ha, cl, n, e1, ?_⟩
      refine tG_to S1 R1 A1 fun y h2 g2 H2 y' E2 S2 R2 ry A2 => ?_
      split at A2
      · rename_i j
        simp only [VR] at ry
        subst ry
        split at A2
        · rename_i k fs' e3
          obtain ⟨e4, a', dx', gs', e5, hm', ha', fr'⟩ := insOf_ok R2 (r1.ext R1 E2) e3
          cases e5
          split at A2
          · rename_i hl
            obtain ⟨E3, R3⟩ := R2.writeIns (c := c) (f := f) (dx := dx') (v := .int (i + j)) (x := .int (i + j)) hm' fr' (by simp only [VR])
            exact ⟨i, j, rfl, rfl, dx', gs', ha', by rw [fr'.length]; exact hl, A2 g2 _ σ E3 R3 (S2.ext R2 E3)⟩
          · exact A2.elim
        · exact A2.elim
      · exact A2.elim
    · exact A1.elim
  · exact A1.elim
/-! methods -/
/-- a method of the class c keeps D -/
structure FnM (P : Program) (w : World) (K : PySem.W.Frag) (mg : Str → Option Value) (base : Heap) (k : Nat) (D : DF) (c m : Tx) (ps : List Str) : Prop where
  ok : ∃ fd, FnOk P w K mg base (L2.CX P w) k (He.ma K (clsA K c) (sOf m)) fd ps (spG K D ps.length) ∧ Binds K fd ps []
  me : Meth K (clsA K c) (sOf m) (He.ma K (clsA K c) (sOf m))
def AllM (P : Program) (w : World) (K : PySem.W.Frag) (mg : Str → Option Value) (base : Heap) (msig : List (Tx × Tx × List Str)) (n0 k : Nat) (Γ : Gam) : Prop := ∀ (j : Nat) (c m : Tx) (ps : List Str), msig[j]? = some (c, m, ps) → FnM P w K mg base k (Γ (n0 + j)) c m ps
theorem pe_methS' {CX : CXT} {k : Nat} {C f : Addr} {fd : FuncData} {ps : List Str} {sp : Sp} {E : L2.St → XK} {m : Str} {pos apos : Pos} {o e : Expr} {es : List Expr} {ta : TE} {t : TA} {pl : Sem Bool} (he : PE X o ta) (c : Cls X.K C) (hm : Meth X.K C m f) (F : FnOk X.prog X.w X.K X.mg X.base CX k f fd ps sp) (hr : Room k X.A) (hb : Binds X.K fd ps []) (hx : ∀ σ, PassesAt CX X σ (E σ)) (ha : PA X (e :: es) t)
    (hst : starEach (e :: es) X.env = (false, eval e X.env) :: starEach es X.env := by rfl) (hpl : (backTo pos (starEach es X.env)).any (·.1) = false := by rfl)
    (ht : eval (.Call (.Attribute o m apos) (e :: es) [] pos) X.env = (do
      let ov ← eval o X.env
      standAt apos.atName
      let (f, first) ← holding [ov] (getMethod ov m pl)
      callWith pos f first (backTo pos (starEach (e :: es) X.env)) (backToKw pos (keywordEach [] X.env))) := by rfl) :
    PE X (.Call (.Attribute o m apos) (e :: es) [] pos) (fun σ H Q => ta σ H fun x H1 => ∃ a dx fs, x = .ref a ∧ H1 a = some (.ins C dx fs) ∧ fs.lookup m = none ∧ t σ H1 fun vs H2 => sp (x :: vs) H2 Q (E σ)) := by
  refine ⟨fun pins s σ H Q I h => ?_⟩
  refine PySem.W.methodCall_KW (pl := pl) (thn (he.run pins s σ H _ I h) fun u s1 ⟨x, H1, I1, rx, a, dx, fs, ex, ea, l, q⟩ => ?_) ht
  subst ex
  obtain rfl : u = Value.ref a := rx
  refine getmeth_ok I1 ea c hm l ?_
  refine PySem.W.callWith_K (first := [.ref a]) (h₀ := X.base) I.ok.mod.kin hm.kp (thn (ha.run pos pins s1 σ H1 _ I1 q) fun us s2 ⟨vs, H2, I2, r, q2⟩ => ⟨I2.kIn, ?_⟩) hst hpl
  exact run_fnS (us := .ref a :: us) (vs := .ref a :: vs) F hr hb (hx σ) I2 (.cons rfl r) q2
theorem pe_methS0' {CX : CXT} {k : Nat} {C f : Addr} {fd : FuncData} {ps : List Str} {sp : Sp} {E : L2.St → XK} {m : Str} {pos apos : Pos} {o : Expr} {ta : TE} {pl : Sem Bool} (he : PE X o ta) (c : Cls X.K C) (hm : Meth X.K C m f) (F : FnOk X.prog X.w X.K X.mg X.base CX k f fd ps sp) (hr : Room k X.A) (hb : Binds X.K fd ps []) (hx : ∀ σ, PassesAt CX X σ (E σ))
    (ht : eval (.Call (.Attribute o m apos) [] [] pos) X.env = (do
      let ov ← eval o X.env
      standAt apos.atName
      let (f, first) ← holding [ov] (getMethod ov m pl)
      callWith pos f first (backTo pos (starEach [] X.env)) (backToKw pos (keywordEach [] X.env))) := by rfl) :
    PE X (.Call (.Attribute o m apos) [] [] pos) (fun σ H Q => ta σ H fun x H1 => ∃ a dx fs, x = .ref a ∧ H1 a = some (.ins C dx fs) ∧ fs.lookup m = none ∧ sp [x] H1 Q (E σ)) := by
  refine ⟨fun pins s σ H Q I h => ?_⟩
  refine PySem.W.methodCall_KW (pl := pl) (thn (he.run pins s σ H _ I h) fun u s1 ⟨x, H1, I1, rx, a, dx, fs, ex, ea, l, q⟩ => ?_) ht
  subst ex
  obtain rfl : u = Value.ref a := rx
  refine getmeth_ok I1 ea c hm l ?_
  exact PySem.W.callWith_K0 (first := [.ref a]) I1.kIn hm.kp (run_fnS (us := [.ref a]) (vs := [.ref a]) F hr hb (hx σ) I1 (.cons rfl .nil) q)
/-- o.m(..) -/
def dMth (c m : Tx) (D : DF) (o : Den) (r : DenG (List Val)) : Den := fun l h => (o l h).bind fun x h1 => match insOf c h1 x with
  | some (_, fs) => (match fget m fs with
    | none => (r l h1).bind fun vs h2 => D (x :: vs) h2
    | some _ => .fail)
  | none => .fail
theorem ge_mth (c m : Tx) {D : DF} {k n : Nat} {ps : List Str} {x : Str} {apos pos : Pos} {o e : Expr} {es : List Expr} {d : Den} {da : DenG (List Val)} {pl : Sem Bool} (ho : GE X W o d) (cl : Cls X.K (clsA X.K c)) (F : FnM X.prog X.w X.K X.mg X.base k D c m ps) (hr : Room k X.A) (tk : Takes X W) (ha : GAN X W (e :: es) n da) (hx : x = sOf m := by decide +kernel)
    (hn : n + 1 = ps.length := by rfl) (he : starEach (e :: es) X.env = (false, eval e X.env) :: starEach es X.env := by rfl) (hpl : (backTo pos (starEach es X.env)).any (·.1) = false := by rfl)
    (ht : eval (.Call (.Attribute o x apos) (e :: es) [] pos) X.env = (do
      let ov ← eval o X.env
      standAt apos.atName
      let (f, first) ← holding [ov] (getMethod ov x pl)
      callWith pos f first (backTo pos (starEach (e :: es) X.env)) (backToKw pos (keywordEach [] X.env))) := by rfl) : GE X W (.Call (.Attribute o x apos) (e :: es) [] pos) (dMth c m D d da) := by
  subst hx
  obtain ⟨fd, F1, b⟩ := F.ok
  refine PE.imp (pe_methS' ho cl F.me F1 hr b (fun σ => passAt tk σ) ha.ga he hpl ht) fun σ H Q ⟨g, l, h, S, R, A⟩ => ?_
  refine tG_of S R A fun x h1 g1 H1 x' E S1 R1 r1 A1 => ?_
  split at A1
  · rename_i q fs e0
    obtain ⟨rfl, a, dx, gs, rfl, hm, ha', fr⟩ := insOf_ok R1 r1 e0
    split at A1
    · rename_i ef
      refine ⟨a, dx, gs, rfl, ha', (FR.get fr).2 ef, ?_⟩
      refine ⟨g1, l, h1, S1, R1, ?_⟩
      cases ed : da l h1 with
      | ok vs h2 =>
        rw [ed] at A1
        intro g' H' ws E2 R' r
        exact spG_of (by rw [List.length_cons, ha.len l h1 vs h2 ed, hn]) R' (VRs.cons (r1.ext R1 E2) r) (After.ext E2 A1)
      | exc x h2 => rw [ed] at A1; exact A1
      | fail => rw [ed] at A1; exact A1
    · exact A1.elim
  · exact A1.elim
theorem ge_mth0 (c m : Tx) {D : DF} {k : Nat} {ps : List Str} {x : Str} {apos pos : Pos} {o : Expr} {d : Den} {pl : Sem Bool} (ho : GE X W o d) (cl : Cls X.K (clsA X.K c)) (F : FnM X.prog X.w X.K X.mg X.base k D c m ps) (hr : Room k X.A) (tk : Takes X W) (hx : x = sOf m := by decide +kernel)
    (hn : 1 = ps.length := by rfl)
    (ht : eval (.Call (.Attribute o x apos) [] [] pos) X.env = (do
      let ov ← eval o X.env
      standAt apos.atName
      let (f, first) ← holding [ov] (getMethod ov x pl)
      callWith pos f first (backTo pos (starEach [] X.env)) (backToKw pos (keywordEach [] X.env))) := by rfl) : GE X W (.Call (.Attribute o x apos) [] [] pos) (dMth c m D d dNil) := by
  subst hx
  obtain ⟨fd, F1, b⟩ := F.ok
  refine PE.imp (pe_methS0' ho cl F.me F1 hr b (fun σ => passAt tk σ) ht) fun σ H Q ⟨g, l, h, S, R, A⟩ => ?_
  refine tG_of S R A fun x h1 g1 H1 x' E S1 R1 r1 A1 => ?_
  split at A1
  · rename_i q fs e0
    obtain ⟨rfl, a, dx, gs, rfl, hm, ha', fr⟩ := insOf_ok R1 r1 e0
    split at A1
    · rename_i ef
      exact ⟨a, dx, gs, rfl, ha', (FR.get fr).2 ef, spG_of (by rw [← hn]; rfl) R1 (VRs.one r1) A1⟩
    · exact A1.elim
  · exact A1.elim
/-! C(..) -/
theorem run_makeS {CX : CXT} {k : Nat} {C f : Addr} {fd : FuncData} {ps : List Str} {sp : Sp} {E : L2.St → XK} {pins : List (Addr × Obj)} {σ : L2.St} {H : Hp} {s : Shared} {Q : VK} {us : List Value} {vs : List V} (M : Mk X.K C f) (F : FnOk X.prog X.w X.K X.mg X.base CX k f fd ps sp) (hr : Room (k + 1) X.A) (hb : Binds X.K fd ps [])
    (hx : PassesAt CX X σ (E σ)) (I : Inv X pins σ H s) (r : Vals vs us)
    (h : ∀ x dx, H x = none → H dx = none → dx ≠ x → sp (.ref x :: vs) (upd (upd H dx (.own x)) x (.ins C dx [])) (fun v H2 => v = .non ∧ Q (.ref x) H2) (E σ)) :
    wpAny (model X.prog X.w) X.A (call (.ref C) us) (EP X pins σ Q) X.xe s := by
  have hq := h (s.heap.objs.size + 1) s.heap.objs.size (I.hok.fresh (Nat.le_succ _)) (I.hok.fresh (Nat.le_refl _)) (Nat.ne_of_lt (Nat.lt_succ_self _))
  have I2 := Inv.made (C := C) I
  have r2 : Vals (V.ref (s.heap.objs.size + 1) :: vs) (Value.ref (s.heap.objs.size + 1) :: us) := .cons rfl r
  have hl : (Value.ref (s.heap.objs.size + 1) :: us).length = ps.length := by
    have e := r2.length
    rw [F.len _ _ _ _ hq] at e
    exact e.symm
  have b := hb _ (Value.ref (s.heap.objs.size + 1) :: us) I2.kIn (by rw [List.append_nil]; exact hl)
  rw [List.append_nil] at b
  refine wpAny_call (make_map (f := f) I.kIn M.makes M.init (beq_iff_eq.mp M.fn) (codeAny_mono (F.run _ X.stack _ _ ⟨Value.ref (s.heap.objs.size + 1) :: us, []⟩ (Value.ref (s.heap.objs.size + 1) :: us) _ _ (E σ) (hr.make C us [])
    (I2.env0.make C us []) b r2 hq) fun r s' hq' => ?_))
  cases r with
  | error e => exact hx pins _ _ e s' I2 hq'
  | ok fl =>
    cases fl with
    | ret u =>
      obtain ⟨v, H', I3, rv, ev, q3⟩ := I2.after hq'
      subst ev
      exact ⟨rv, ⟨V.ref (s.heap.objs.size + 1), H', I3, rfl, q3⟩⟩
    | next => exact False.elim hq'
    | brk => exact False.elim hq'
    | cont => exact False.elim hq'
theorem pe_makeS {CX : CXT} {k : Nat} {C f : Addr} {fd : FuncData} {ps : List Str} {sp : Sp} {E : L2.St → XK} {x : Str} {p pos : Pos} {e : Expr} {es : List Expr} {t : TA} (M : Mk X.K C f) (F : FnOk X.prog X.w X.K X.mg X.base CX k f fd ps sp) (hr : Room (k + 1) X.A) (hg : Gl X x) (hm : X.mg x = some (.ref C)) (hb : Binds X.K fd ps []) (hx : ∀ σ, PassesAt CX X σ (E σ))
    (ha : PA X (e :: es) t) (hdb : (x == ("__debug__" : Str)) = false := by decide) (he : starEach (e :: es) X.env = (false, eval e X.env) :: starEach es X.env := by rfl) (hpl : (backTo pos (starEach es X.env)).any (·.1) = false := by rfl) :
    PE X (.Call (.Name x p) (e :: es) [] pos) (fun σ H Q => t σ H fun vs H1 => ∀ x dx, H1 x = none → H1 dx = none → dx ≠ x → sp (.ref x :: vs) (upd (upd H1 dx (.own x)) x (.ins C dx [])) (fun v H2 => v = .non ∧ Q (.ref x) H2) (E σ)) := by
  refine ⟨fun pins s σ H Q I h => ?_⟩
  refine wpAny_Call_Name_kw (ld_glob I hg hm ?_ hdb)
  refine PySem.W.callWith_K (h₀ := X.base) I.ok.mod.kin M.kp (thn (ha.run pos pins s σ H _ I h) fun us s1 ⟨vs, H1, I1, r, q⟩ => ⟨I1.kIn, ?_⟩) he hpl
  exact run_makeS M F hr hb (hx σ) I1 r q
def dMake (c : Tx) (D : DF) (r : DenG (List Val)) : Den := fun l h => (r l h).bind fun vs h1 => (D (.ref h1.length :: vs) (h1 ++ [.ins c []])).bind fun v h2 => match v with
  | .non => .ok (.ref h1.length) h2
  | _ => .fail
theorem ge_make (c : Tx) {D : DF} {k n : Nat} {ps : List Str} {x : Str} {p pos : Pos} {e : Expr} {es : List Expr} {da : DenG (List Val)} (F : FnM X.prog X.w X.K X.mg X.base k D c [95, 95, 105, 110, 105, 116, 95, 95] ps) (M : Mk X.K (clsA X.K c) (He.ma X.K (clsA X.K c) (sOf [95, 95, 105, 110, 105, 116, 95, 95]))) (hm : X.mg x = some (.ref (clsA X.K c))) (hr : Room (k + 1) X.A) (tk : Takes X W) (ha : GAN X W (e :: es) n da)
    (hn : n + 1 = ps.length := by rfl) (hg : Gl X x := by rfl) (hdb : (x == ("__debug__" : Str)) = false := by decide +kernel)
    (he : starEach (e :: es) X.env = (false, eval e X.env) :: starEach es X.env := by rfl) (hpl : (backTo pos (starEach es X.env)).any (·.1) = false := by rfl) : GE X W (.Call (.Name x p) (e :: es) [] pos) (dMake c D da) := by
  obtain ⟨fd, F1, b⟩ := F.ok
  refine PE.imp (pe_makeS M F1 hr hg hm b (fun σ => passAt tk σ) ha.ga hdb he hpl) fun σ H Q ⟨g, l, h, S, R, A⟩ => ?_
  refine ⟨g, l, h, S, R, ?_⟩
  unfold dMake at A
  cases ed : da l h with
  | ok vs h1 =>
    rw [ed] at A
    intro g1 H1 ws E R1 r x dx nx ndx ne
    obtain ⟨Ea, Ra⟩ := R1.grow (o := .own x) ndx
    have nx2 : upd H1 dx (.own x) x = none := by rw [upd_ne (Ne.symm ne)]; exact nx
    obtain ⟨Eb, Rb⟩ := Ra.push (o := .ins (clsA X.K c) dx []) (ob := .ins c []) nx2 ⟨dx, [], upd_same, rfl, VRs.nil⟩
    have A2 := After.ext (E.trans (Ea.trans Eb)) A
    simp only [Res.bind_ok] at A2
    have rx : VR X.K ⟨g1.m ++ [x], g1.r⟩ (upd (upd H1 dx (.own x)) x (.ins (clsA X.K c) dx [])) (.ref h1.length) (.ref x) := by
      simp only [VR]
      refine ⟨x, rfl, ?_⟩
      rw [← R1.len]
      simp
    refine spG_of (W := W) (σ := σ) (args := .ref h1.length :: vs) (by rw [List.length_cons, ha.len l h vs h1 ed, hn]) Rb (VRs.cons rx (r.ext R1 (Ea.trans Eb))) ?_
    cases eD : D (.ref h1.length :: vs) (h1 ++ [.ins c []]) with
    | ok v h2 =>
      rw [eD] at A2
      simp only [Res.bind_ok] at A2
      intro g' H' x' E' R' r'
      cases v with
      | non =>
        simp only [VR] at r'
        exact ⟨r', A2 g' H' _ E' R' (rx.ext Rb E')⟩
      | _ => exact A2.elim
    | exc y h2 => rw [eD] at A2; exact A2
    | fail => rw [eD] at A2; exact A2
  | exc x h1 => rw [ed] at A; exact A
  | fail => rw [ed] at A; exact A
end
theorem levels2 {P : Program} {w : World} {K : PySem.W.Frag} {mg : Str → Option Value} {base : Heap} {sig : List (Str × List Str)} {msig : List (Tx × Tx × List Str)} {n0 : Nat} {D : Gam → Gam}
    (h0 : ∀ (j : Nat) (x : Str) (ps : List Str), sig[j]? = some (x, ps) → mg x = some (.ref (He.ga K x)) ∧ PySem.W.keepIn K (.ref (He.ga K x)) = true ∧ ∃ fd, Binds K fd ps [])
    (m0 : ∀ (j : Nat) (c m : Tx) (ps : List Str), msig[j]? = some (c, m, ps) → Meth K (clsA K c) (sOf m) (He.ma K (clsA K c) (sOf m)) ∧ ∃ fd, Binds K fd ps [])
    (step : ∀ k Γ, AllK P w K mg base sig k Γ → AllM P w K mg base msig n0 k Γ → (∀ (j : Nat) (x : Str) (ps : List Str), sig[j]? = some (x, ps) → FnK P w K mg base (k + 2) (D Γ j) x ps) ∧ ∀ (j : Nat) (c m : Tx) (ps : List Str), msig[j]? = some (c, m, ps) → FnM P w K mg base (k + 2) (D Γ (n0 + j)) c m ps) :
    ∀ k, AllK P w K mg base sig (2 * k) (lev D k) ∧ AllM P w K mg base msig n0 (2 * k) (lev D k)
  | 0 => ⟨fun j x ps e => by
    obtain ⟨g, kp, fd, b⟩ := h0 j x ps e
    refine ⟨⟨fd, ⟨fun vs H Q E h => h.1, fun A outer s H args us vs Q E hr he hb hv hs => ?_⟩, b⟩, g, kp⟩
    obtain ⟨_, _, _, _, _, _, z⟩ := hs
    exact z.elim, fun j c m ps e => by
    obtain ⟨me, fd, b⟩ := m0 j c m ps e
    refine ⟨⟨fd, ⟨fun vs H Q E h => h.1, fun A outer s H args us vs Q E hr he hb hv hs => ?_⟩, b⟩, me⟩
    obtain ⟨_, _, _, _, _, _, z⟩ := hs
    exact z.elim⟩
  | k + 1 => step (2 * k) _ (levels2 h0 m0 step k).1 (levels2 h0 m0 step k).2
section
variable {X : Cx} {W : WX}
theorem ge_extend {o e : Expr} {dx de : Den} {apos cpos : Pos} (ho : GE X W o dx) (he : GE X W e de) (hbase : attributeBase o "extend" X.env (eval o X.env) = eval o X.env := by rfl)
    (hfew : ((backTo cpos (starEach [e] X.env)).all (fun x => !x.1) && (backToKw cpos (keywordEach [] X.env)).all (fun x => x.1.isSome)
      && decide (([e] : List Expr).length + ([] : List Keyword).length + (if ([] : List Keyword).isEmpty then 0 else 1) < 30)) = true := by rfl)
    (hline : (apos.endLine == cpos.line) = true := by rfl) (hs : starEach [e] X.env = (false, eval e X.env) :: starEach [] X.env := by rfl) (hplain : (backTo cpos (starEach [] X.env)).any (·.1) = false := by rfl) :
    GE X W (.Call (.Attribute o "extend" apos) [e] [] cpos) (dMeth1 isLst (fun x v h => if (lstOf h v).isSome then vExtend x v h else .fail) dx de) := ge_meth1 m1_extend_l PySem.F.plainAttrs_list PySem.F.slot_list_extend PySem.F.type_list_extend ho he hbase hfew hline hs hplain
end
end GH
set_option Elab.async false
set_option linter.all false
set_option maxRecDepth 100000
set_option maxHeartbeats 4000000
set_option autoImplicit false
/-! exceptions with one field of their own: raise C(e), except C as x: return x.f; xs.index(n). -/
namespace GH
open PySem PySem.Spec PyProof.Rows L2
/-! the class -/
def oexB (K : PySem.W.Frag) (C : Addr) : Bool := (match K.lookup C with
  | some ⟨.type "type", _, .cls cd, sl⟩ => (match cd.mro, sl.toList with
    | .ref D :: bm, [_, _, _, _, some (.builtin n), _] => D == C && n == "ValueError.__new__" && !cd.hasDel && cd.hasDict && PySem.HandSPX.refsVE bm
    | _, _ => false)
  | _ => false) && decide (PySem.W.findIn K (.ref C) "__setattr__" = some (some (.builtin "object.__setattr__"))) && decide (PySem.W.subIn K (.ref C) (.type "BaseException") = some true) && decide (PySem.W.typeIn K (.ref C) = some (.type "type")) && PySem.W.keepIn K (.ref C)
theorem oexB_ok {K : PySem.W.Frag} {C : Addr} (h : oexB K C = true) : OexC K C := by
  unfold oexB at h
  simp only [Bool.and_eq_true, decide_eq_true_eq] at h
  obtain ⟨⟨⟨⟨h1, h2⟩, h3⟩, h4⟩, h5⟩ := h
  refine ⟨?_, h2, h3, h4, h5⟩
  split at h1
  · rename_i dd cd sl ho
    split at h1
    · rename_i D bm k0 k1 k2 k3 n k5 hm hs
      simp only [Bool.and_eq_true, beq_iff_eq, Bool.not_eq_true'] at h1
      obtain ⟨⟨⟨⟨rfl, rfl⟩, hdel⟩, hdct⟩, ht⟩ := h1
      obtain ⟨nm, bs, mro, ns, qn, hd, sn, sub, ab, col, del⟩ := cd
      dsimp only at hm hdel hdct
      subst hm hdel hdct
      obtain ⟨l⟩ := sl
      simp only at hs
      subst hs
      exact ⟨nm, qn, ns, bs, bm, sn, sub, ab, col, dd, k0, k1, k2, k3, k5, ho, ht⟩
    · cases h1
  · cases h1
/-- what the maker keeps: the field stands -/
def spI (C : Addr) (f : Str) : Sp := fun vs H Q _ => ∃ (a : Addr) (v : V), vs = [.ref a, v] ∧ H a = some (exo a C none) ∧ ∀ dx, H dx = none → dx ≠ a → Q .non (upd (upd H dx (exd dx [(f, v)])) a (exo a C (some dx)))
def tInit (K : PySem.W.Frag) (f : Str) : TS := tOst K f (tVar 0) (tVar 1)
theorem init_pure {K : PySem.W.Frag} {C : Addr} {f : Str} {N : List Str} (T : OexC K C) (hno : PySem.W.findIn K (.ref C) f = some none) (hN : N.length = 2) {vs : List V} {H : Hp} {Q : VK} {E : XK} (h : spI C f vs H Q E) : tInit K f { nx := fun _ H' => Q .non H', rt := Q } (L2.start N vs) H := by
  obtain ⟨a, v, rfl, e, q⟩ := h
  match N, hN with
  | [_, _], _ => exact ⟨v, rfl, .ref a, rfl, a, C, rfl, T, hno, .inl ⟨e, fun dx n ne => q dx n ne⟩⟩
/-- the way of C(e): what the heap is then -/
theorem made_heap {H : Hp} {a d C : Addr} {f : Str} {v : V} (ha : H a = none) (hd : d ≠ a) : upd (del (upd (upd (upd H a (exo a C none)) d (exd d [(f, v)])) a (exo a C (some d))) a) d (.xd [(f, v)]) = upd H d (.xd [(f, v)]) := by
  funext b
  by_cases hb : b = d
  · subst hb
    rw [upd_same, upd_same]
  · rw [upd_ne hb, upd_ne hb]
    by_cases ha' : b = a
    · subst ha'
      rw [del_same, ha]
    · rw [del_ne ha', upd_ne ha', upd_ne hb, upd_ne ha']
section
variable {X : Cx} {W : WX}
/-- raise C(e): C keeps e as f -/
def sRaiseF (c f : List Nat) (de : Den) : Stm := fun l h => (de l h).to l fun v h1 => .exc ⟨c, [(f, v)]⟩ l h1
theorem gs_raiseF (c f : List Nat) {x : Str} {e : Expr} {de : Den} {fI : Addr} {fd : FuncData} {ps : List Str} {p pos pos2 : Pos} (hc : X.calm = true) (tk : Takes X W) (T : OexC X.K (clsA X.K c)) (iC : PySem.W.findIn X.K (.ref (clsA X.K c)) "__init__" = some (some (.ref fI))) (tI : PySem.W.typeIn X.K (.ref fI) = some (.type "function"))
    (F1 : FnOk X.prog X.w X.K X.mg X.base CX0 1 fI fd ps (spI (clsA X.K c) (sOf f))) (hb : Binds X.K fd ps []) (hr : Room 2 X.A) (hm : X.mg x = some (.ref (clsA X.K c))) (he : GE X W e de) (hg : Gl X x := by rfl) (hdb : (x == ("__debug__" : Str)) = false := by decide +kernel)
    (h1 : starEach (e :: []) X.env = (false, eval e X.env) :: starEach [] X.env := by rfl) (h2 : (backTo pos (starEach [] X.env)).any (·.1) = false := by rfl) :
    GS X W (.Raise (some (.Call (.Name x p) [e] [] pos)) none pos2) (sRaiseF c f de) := by
  refine PS.imp (ps_raise hc tk (pmk_oex T iC tI F1 hr hb .nil (fun _ _ _ _ _ _ _ z => z.elim) hg hm (pa_cons he pa_nil h1) hdb h1 h2)) fun D σ H ⟨g, l, h, S, R, A⟩ => ?_
  refine tG_to S R A fun v h1 g1 H1 y E S1 R1 r1 A1 => ?_
  refine ⟨by simp, fun a na => ⟨a, y, rfl, upd_same, fun dx nd ne => ⟨rfl, dx, [(sOf f, y)], upd_same, by rw [upd_ne ne, upd_same], ?_, ?_⟩⟩⟩
  · rw [upd_ne ne] at nd
    exact nd
  · rw [upd_ne ne] at nd
    rw [made_heap na ne]
    obtain ⟨Ea, Ra⟩ := R1.grow (o := .xd [(sOf f, y)]) nd
    refine A1 g1 _ σ _ (some dx) Ea Ra (S1.ext R1 Ea) ⟨rfl, dx, [(sOf f, y)], rfl, ?_, upd_same, FR.cons (p := (f, v)) (r1.ext R1 Ea) ⟨rfl, VRs.nil⟩⟩
    rintro (hz | hz)
    · rcases R1.kind hz with ⟨_, e⟩ | ⟨_, e⟩ | ⟨_, _, _, e⟩ <;> rw [nd] at e <;> cases e
    · obtain ⟨_, e, _⟩ := R1.al _ hz
      rw [nd] at e; cases e
/-- try: body; except C as x: return x.f -/
def sTryFld (i : Nat) (c f : List Nat) (body : Stm) : Stm := fun l h => match body l h with
  | .exc e l1 h1 => if e.c = c ∧ i < l1.length then (match fget f e.fs with
    | some v => .rt v h1
    | none => .fail) else .fail
  | r => r
theorem gs_tryFld (c f : List Nat) {i : Nat} {x nm xf : Str} {body : List Stmt} {np np2 pos pos' pos4 rp : Pos} {db : Stm}
    (hs : X.stack = X.env :: X.outer) (hf : X.env.frame = some X.env.locals) (hN : X.N.Nodup) (hi : X.N[i]? = some nm) (hln : X.env.kindOf nm = some .local)
    (hc : Names X x (.ref (clsA X.K c))) (tk : Takes X W) (hm : PySem.W.exmOne X.K (.ref (clsA X.K c)) (.ref (clsA X.K c)) = some true) (T : XfC X.K (clsA X.K c)) (hno : PySem.W.findIn X.K (.ref (clsA X.K c)) (sOf f) = some none)
    (hb : ∀ (W' : WX) (pn : List (Addr × Obj)) (xe : Value → Shared → Prop), Takes (X.tr pn xe) W' → PassesOwn (model X.prog X.w) X.A X.env xe → GSs (X.tr pn xe) W' body db)
    (hdn : (nm == ("__debug__" : Str)) = false := by decide +kernel) (hdc : (nm == ("__classdict__" : Str)) = false := by decide +kernel)
    (hba : attributeBase (.Name nm np2) (sOf f) X.env (eval (.Name nm np2) X.env) = eval (.Name nm np2) X.env := by rfl) (hxf : xf = sOf f := by rfl) :
    GS X W (.Try body [.ExceptHandler (some (.Name x np)) (some nm) [.Return (some (.Attribute (.Name nm np2) xf rp)) pos4] pos'] [] [] pos) (sTryFld i c f db) := by
  subst hxf
  refine PS.imp (ps_try_as (i := i) (tb := fun W' => tS X.K W' db)
    (ts := fun a cls d => fun D σ H => σ[i]? = some (some (.ref a)) ∧ cls = .ref (clsA X.K c) ∧ ∃ (dd : Addr) (fs : List (Str × V)) (v : V), d = some dd ∧ H dd = some (.xd fs) ∧ fs.lookup (sOf f) = some v ∧ D.rt v H) hs hf hN hi hln hc tk hb (fun a oe cls d pn hz hfd => ?_)) fun D σ H ⟨g, l, h, S, R, AA⟩ => ?_
  · refine ⟨fun pins s σ H D I ⟨e1, e2, dd, fs, v, e3, e4, e5, q⟩ => ?_⟩
    have hv : PE (X.suite a ((a, oe) :: pn)) (.Name nm np2) (tVar i) := pe_var hi (.inl hln) hdn hdc
    refine (pss_one (ps_ret (pe_xf (pos := rp) T hno hz hfd hv hba))).run pins s σ H D I ?_
    exact ⟨_, e1, rfl, e2, dd, fs, v, e3, e4, e5, q⟩
  · refine ⟨g, l, h, S, R, ?_⟩
    unfold sTryFld at AA
    cases e : db l h with
    | nx l1 h1 => rw [e] at AA; exact AA
    | bk l1 h1 => rw [e] at AA; exact AA
    | ct l1 h1 => rw [e] at AA; exact AA
    | rt l1 h1 => rw [e] at AA; exact AA
    | fail => rw [e] at AA; exact AA
    | exc x1 l1 h1 =>
      rw [e] at AA
      simp only at AA
      split at AA
      · rename_i hcc
        split at AA
        · rename_i v hv
          intro g' H' σ' cls d E R' S' re
          obtain ⟨k1, k2⟩ := re
          rw [hcc.1] at k1
          have hlen : i < σ'.length := by rw [← S'.len]; exact hcc.2
          cases hfs : x1.fs with
          | nil => rw [hfs] at hv; cases hv
          | cons p r =>
            rw [hfs] at k2 hv
            obtain ⟨dd, gs, k3, k4, k5, k6⟩ := k2
            obtain ⟨y, e1, r1⟩ := (FR.get k6).1 v hv
            subst k1
            refine ⟨true, hm, fun _ a na => ⟨by rw [List.getElem?_set_self hlen], rfl, dd, gs, y, k3, k5, e1, AA g' H' _ E R' r1⟩, fun z => by cases z⟩
        · exact AA.elim
      · exact AA.elim
/-- xs.index(n), whole numbers -/
def intsOf' : List Val → Option (List Int)
  | [] => some []
  | .int i :: r => (intsOf' r).map (i :: ·)
  | _ => none
def vIndex (x u : Val) (h : Hv) : Res Val := match lstOf h x, u with
  | some l, .int n => (match intsOf' l with
    | some ns => (match ns.idxOf? n with
      | some j => .ok (.int j) h
      | none => .fail)
    | none => .fail)
  | _, _ => .fail
theorem ints_rel {K : PySem.W.Frag} {g : Gh} {H : Hp} : ∀ {l : List Val} {ns : List Int} {xs : List V}, intsOf' l = some ns → VRs K g H l xs → xs = ns.map V.int
  | [], ns, xs, e, r => by
    cases e
    exact r
  | v :: l, ns, xs, e, r => by
    simp only [VRs] at r
    obtain ⟨x, xs', rfl, r1, r2⟩ := r
    cases v with
    | int i =>
      simp only [intsOf', Option.map_eq_some_iff] at e
      obtain ⟨ns', e', rfl⟩ := e
      simp only [VR] at r1
      rw [r1, ints_rel e' r2]
      rfl
    | _ => cases e
theorem m1_index : M1R X "list" "list.index" isLst vIndex := ⟨fun g H h v x R r e => lst_ty R r e, _, mt_index, fun W g H h σ v u x y Q R rv ru A => by
  unfold vIndex at A
  split at A
  · rename_i l n hl
    split at A
    · rename_i ns hns
      split at A
      · rename_i j hj
        obtain ⟨a, xs, rfl, s, rs⟩ := lstOf_ok R rv hl
        simp only [VR] at ru
        subst ru
        have ex := ints_rel hns rs
        subst ex
        obtain ⟨hlt, h1, h2⟩ := List.idxOf?_eq_some_iff.mp hj
        refine ⟨a, _, _, j, .int n, rfl, rfl, SqL.of s, rfl, ?_, ?_, by simp [eqV], ?_, A g H _ Ext.refl R (by simp only [VR])⟩
        · simp [flatV]
        · rw [List.getElem?_map, List.getElem?_eq_getElem hlt]
          simp [h1]
        · intro m z' hm hz
          rw [List.getElem?_map] at hz
          obtain ⟨w, hw, rfl⟩ := Option.map_eq_some_iff.mp hz
          have := h2 m hm
          obtain ⟨hml, hw⟩ := List.getElem?_eq_some_iff.mp hw
          rw [hw] at this
          simpa [eqV] using this
      · exact A.elim
    · exact A.elim
  · exact A.elim⟩
theorem ge_index {o e : Expr} {dx de : Den} {apos cpos : Pos} (ho : GE X W o dx) (he : GE X W e de) (hbase : attributeBase o "index" X.env (eval o X.env) = eval o X.env := by rfl)
    (hfew : ((backTo cpos (starEach [e] X.env)).all (fun x => !x.1) && (backToKw cpos (keywordEach [] X.env)).all (fun x => x.1.isSome)
      && decide (([e] : List Expr).length + ([] : List Keyword).length + (if ([] : List Keyword).isEmpty then 0 else 1) < 30)) = true := by rfl)
    (hline : (apos.endLine == cpos.line) = true := by rfl) (hs : starEach [e] X.env = (false, eval e X.env) :: starEach [] X.env := by rfl) (hplain : (backTo cpos (starEach [] X.env)).any (·.1) = false := by rfl) :
    GE X W (.Call (.Attribute o "index" apos) [e] [] cpos) (dMeth1 isLst vIndex dx de) := ge_meth1 m1_index PySem.F.plainAttrs_list PySem.F.slot_list_index PySem.F.type_list_index ho he hbase hfew hline hs hplain
/-- the maker's promise and its names, as one -/
def InitOk (P : Program) (w : World) (K : PySem.W.Frag) (mg : Str → Option Value) (base : Heap) (C fI : Addr) (ps : List Str) (f : Str) : Prop := ∃ fd, FnOk P w K mg base CX0 1 fI fd ps (spI C f) ∧ Binds K fd ps []
theorem gs_raiseI (c f : List Nat) {x fs : Str} {e : Expr} {de : Den} {fI : Addr} {ps : List Str} {p pos pos2 : Pos} (hc : X.calm = true) (tk : Takes X W) (T : OexC X.K (clsA X.K c)) (me : Meth X.K (clsA X.K c) "__init__" fI)
    (F1 : InitOk X.prog X.w X.K X.mg X.base (clsA X.K c) fI ps fs) (hr : Room 2 X.A) (hm : X.mg x = some (.ref (clsA X.K c))) (he : GE X W e de) (hfs : fs = sOf f := by decide +kernel) (hg : Gl X x := by rfl) (hdb : (x == ("__debug__" : Str)) = false := by decide +kernel)
    (h1 : starEach (e :: []) X.env = (false, eval e X.env) :: starEach [] X.env := by rfl) (h2 : (backTo pos (starEach [] X.env)).any (·.1) = false := by rfl) :
    GS X W (.Raise (some (.Call (.Name x p) [e] [] pos)) none pos2) (sRaiseF c f de) := by
  subst hfs
  obtain ⟨fd, F1, hb⟩ := F1
  exact gs_raiseF c f hc tk T me.at_ (beq_iff_eq.mp me.fn) F1 hb hr hm he hg hdb h1 h2
end
/-- levels that begin above 0 -/
theorem levels3 {P : Program} {w : World} {K : PySem.W.Frag} {mg : Str → Option Value} {base : Heap} {sig : List (Str × List Str)} {msig : List (Tx × Tx × List Str)} {n0 : Nat} {D : Gam → Gam}
    (h0 : ∀ (j : Nat) (x : Str) (ps : List Str), sig[j]? = some (x, ps) → mg x = some (.ref (He.ga K x)) ∧ PySem.W.keepIn K (.ref (He.ga K x)) = true ∧ ∃ fd, Binds K fd ps [])
    (m0 : ∀ (j : Nat) (c m : Tx) (ps : List Str), msig[j]? = some (c, m, ps) → Meth K (clsA K c) (sOf m) (He.ma K (clsA K c) (sOf m)) ∧ ∃ fd, Binds K fd ps [])
    (step : ∀ k Γ, 1 ≤ k → AllK P w K mg base sig k Γ → AllM P w K mg base msig n0 k Γ → (∀ (j : Nat) (x : Str) (ps : List Str), sig[j]? = some (x, ps) → FnK P w K mg base (k + 2) (D Γ j) x ps) ∧ ∀ (j : Nat) (c m : Tx) (ps : List Str), msig[j]? = some (c, m, ps) → FnM P w K mg base (k + 2) (D Γ (n0 + j)) c m ps) :
    ∀ k, AllK P w K mg base sig (2 * k + 1) (lev D k) ∧ AllM P w K mg base msig n0 (2 * k + 1) (lev D k)
  | 0 => ⟨fun j x ps e => by
    obtain ⟨g, kp, fd, b⟩ := h0 j x ps e
    refine ⟨⟨fd, ⟨fun vs H Q E h => h.1, fun A outer s H args us vs Q E hr he hb hv hs => ?_⟩, b⟩, g, kp⟩
    obtain ⟨_, _, _, _, _, _, z⟩ := hs
    exact z.elim, fun j c m ps e => by
    obtain ⟨me, fd, b⟩ := m0 j c m ps e
    refine ⟨⟨fd, ⟨fun vs H Q E h => h.1, fun A outer s H args us vs Q E hr he hb hv hs => ?_⟩, b⟩, me⟩
    obtain ⟨_, _, _, _, _, _, z⟩ := hs
    exact z.elim⟩
  | k + 1 => step (2 * k + 1) _ (by omega) (levels3 h0 m0 step k).1 (levels3 h0 m0 step k).2
end GH
set_option Elab.async false
set_option linter.all false
set_option maxRecDepth 100000
set_option maxHeartbeats 4000000
set_option autoImplicit false
/-! str of a text, str of a whole number. -/
namespace GH
open PySem PySem.Spec PyProof.Rows L2
variable {X : Cx}
def vStr (v : Val) (h : Hv) : Res Val := match v with
  | .str s => .ok (.str s) h
  | v => vStrI v h
theorem call_str2 : CallR X (.type "str") (fun xs H Q => (∃ a, xs = [.str a] ∧ Q (.str a) H) ∨ ∃ i : Int, xs = [.int i] ∧ i.natAbs.log2 < 1920 ∧ Q (.str (toString i)) H) := by
  intro pins s σ H xs us Q I r h
  rcases h with h | h
  · exact SkE.call_str_str pins s σ H xs us Q I r h
  · exact call_str_int pins s σ H xs us Q I r h
theorem c1_strS : C1 X (.type "str") vStr := ⟨_, call_str2, fun W g H h σ v x Q R r A => by
  unfold vStr at A
  split at A
  · simp only [VR] at r
    subst r
    exact .inl ⟨_, rfl, A g H _ Ext.refl R (by simp only [VR])⟩
  · unfold vStrI at A
    split at A
    · split at A
      · rename_i hz
        simp only [VR] at r
        subst r
        refine .inr ⟨_, rfl, hz, A g H _ Ext.refl R ?_⟩
        simp only [VR]
        exact congrArg V.str (by generalize Str.ofString _ = s; cases s; rfl)
      · exact A.elim
    · exact A.elim⟩
end GH
set_option Elab.async false
set_option linter.all false
set_option maxRecDepth 100000
set_option maxHeartbeats 2000000
set_option autoImplicit false
namespace L05
open PySem PySem.Spec PyProof.Rows L2 GH
def top (i : Nat) : Stmt := PySem.Challenge.pw_grovehouse_k05_first_wrong_token.main.body.getD i (.Pass ⟨0, 0, 0, 0⟩)
def mth (i j : Nat) : Stmt := match top i with
  | .ClassDef _ _ _ b _ _ _ _ _ _ _ => b.getD j (.Pass ⟨0, 0, 0, 0⟩)
  | s => s

noncomputable def b_is_set_name (Γ : Gam) : Stm := (sSeq (sRet (dChain vLeS vLeS (dC (.str [65])) (dBin vIx (dVar 0) (dC (.int 0))) (dC (.str [90]))))
    sNext)
noncomputable def d_is_set_name (Γ : Gam) : DF := fun args h => runDef 1 (b_is_set_name Γ) args h
noncomputable def b_tokens (Γ : Gam) : Stm := (sSeq (sAsg (dLstM dNil) (gName 1))
    (sSeq (sAsg (dC (.int 0)) (gName 2))
    (sSeq (sWhile (dB (dBin vLt (dVar 2) (dLen (dVar 0)))) (sSeq (sAsg (dBin vIx (dVar 0) (dVar 2)) (gName 3))
    (sSeq (sAsg (dBin vAdd (dVar 2) (dC (.int 1))) (gName 4))
    (sSeq (sIf (dB (dBin vIn (dVar 3) (dC (.str [97, 98, 99, 100, 101, 102, 103, 104, 105, 106, 107, 108, 109, 110, 111, 112, 113, 114, 115, 116, 117, 118, 119, 120, 121, 122, 65, 66, 67, 68, 69, 70, 71, 72, 73, 74, 75, 76, 77, 78, 79, 80, 81, 82, 83, 84, 85, 86, 87, 88, 89, 90])))) (sSeq (sWhile (dAnd (dB (dBin vLt (dVar 4) (dLen (dVar 0)))) (dOr (dB (dBin vIn (dBin vIx (dVar 0) (dVar 4)) (dC (.str [97, 98, 99, 100, 101, 102, 103, 104, 105, 106, 107, 108, 109, 110, 111, 112, 113, 114, 115, 116, 117, 118, 119, 120, 121, 122, 65, 66, 67, 68, 69, 70, 71, 72, 73, 74, 75, 76, 77, 78, 79, 80, 81, 82, 83, 84, 85, 86, 87, 88, 89, 90])))) (dB (dBin vIn (dBin vIx (dVar 0) (dVar 4)) (dC (.str [48, 49, 50, 51, 52, 53, 54, 55, 56, 57])))))) (sSeq (sAug 4 vIAdd (dC (.int 1)))
    sNext))
    (sSeq (sExpr (dMeth1 isLst vAppend (dVar 1) (dTup (dCons (dIf (dB (dBin vIn (dCut (dVar 0) (oSome (dVar 2)) (oSome (dVar 4))) (dC (.tup [.str [116, 114, 117, 101], .str [110, 111, 116], .str [97, 110, 100], .str [111, 114], .str [115, 111, 109, 101], .str [97, 108, 108], .str [105, 110], .str [105, 110, 115, 105, 100, 101], .str [98, 101, 108, 111, 119], .str [115, 97, 109, 101], .str [116, 111, 112], .str [99, 104, 105, 108, 100], .str [108, 97, 98, 101, 108]])))) (dC (.str [119, 111, 114, 100])) (dC (.str [110, 97, 109, 101]))) (dCons (dCut (dVar 0) (oSome (dVar 2)) (oSome (dVar 4))) (dCons (dVar 2) dNil))))))
    sNext)) (sSeq (sIf (dOr (dB (dBin vIn (dVar 3) (dC (.str [40, 41, 44, 58])))) (dB (dBin vIn (dVar 3) (dC (.str [48, 49]))))) (sSeq (sExpr (dMeth1 isLst vAppend (dVar 1) (dTup (dCons (dC (.str [115, 105, 103, 110])) (dCons (dVar 3) (dCons (dVar 2) dNil))))))
    sNext) (sSeq (sIf (dAnd (dB (dBin vNe (dVar 3) (dC (.str [32])))) (dB (dBin vNe (dVar 3) (dC (.str [10]))))) (sSeq (sExpr (dMeth1 isLst vAppend (dVar 1) (dTup (dCons (dC (.str [119, 114, 111, 110, 103])) (dCons (dVar 3) (dCons (dVar 2) dNil))))))
    sNext) sNext)
    sNext))
    sNext))
    (sSeq (sAsg (dVar 4) (gName 2))
    sNext)))))
    (sSeq (sRet (dVar 1))
    sNext))))
noncomputable def d_tokens (Γ : Gam) : DF := fun args h => tidy (runDef 5 (b_tokens Γ) args h) h
noncomputable def b_read_formula (Γ : Gam) : Stm := (sSeq (sAsg (dMake [82, 101, 97, 100, 101, 114] (Γ 18) (dCons (dVar 0) dNil)) (gName 1))
    (sSeq (sAsg (dMth [82, 101, 97, 100, 101, 114] [101, 105, 116, 104, 101, 114] (Γ 23) (dVar 1) dNil) (gName 2))
    (sSeq (sExpr (dMth [82, 101, 97, 100, 101, 114] [110, 101, 101, 100] (Γ 19) (dVar 1) (dCons (dBin vGe (dFld [82, 101, 97, 100, 101, 114] [97, 116] (dVar 1)) (dLen (dFld [82, 101, 97, 100, 101, 114] [102, 111, 117, 110, 100] (dVar 1)))) dNil)))
    (sSeq (sRet (dVar 2))
    sNext))))
noncomputable def d_read_formula (Γ : Gam) : DF := fun args h => runDef 3 (b_read_formula Γ) args h
noncomputable def b__law_tape (Γ : Gam) : Stm := (sSeq (sAsg (dLc frozen [3] (iSeq (dVar 0)) (gName 3) dYes (dFn vAbs (dFn vInt (dVar 3)))) (gName 1))
    (sSeq (sAsg (dC (.int 7)) (gName 2))
    (sSeq (sFor (iSeq (dVar 1)) (gName 3) (sSeq (sAsg (dBin vMod (dFn vInt (dBin vAdd (dBin vMul (dVar 2) (dC (.int 31))) (dVar 3))) (dC (.int 2147483647))) (gName 2))
    sNext))
    (sSeq (sRet (dDisp (((dC (.str [99, 101, 108, 108, 115])), (dVar 1)) :: (((dC (.str [97, 116])), (dC (.int 0))) :: (((dC (.str [108, 101, 102, 116])), (dC (.int 0))) :: (((dC (.str [115, 101, 101, 100])), (dVar 2)) :: (((dC (.str [115, 97, 108, 116])), (dC (.int 0))) :: [])))))))
    sNext))))
noncomputable def d__law_tape (Γ : Gam) : DF := fun args h => runDef 4 (b__law_tape Γ) args h
noncomputable def b__law_take (Γ : Gam) : Stm := (sSeq (sIf (dAnd (dB (dBin vEq (dBin vIx (dVar 0) (dC (.str [108, 101, 102, 116]))) (dC (.int 0)))) (dB (dBin vLt (dBin vIx (dVar 0) (dC (.str [97, 116]))) (dLen (dBin vIx (dVar 0) (dC (.str [99, 101, 108, 108, 115]))))))) (sSeq (sAsg (dBin vIx (dBin vIx (dVar 0) (dC (.str [99, 101, 108, 108, 115]))) (dBin vIx (dVar 0) (dC (.str [97, 116])))) (gSub (dVar 0) (dC (.str [108, 101, 102, 116]))))
    (sSeq (sAsg (dBin vAdd (dBin vIx (dVar 0) (dC (.str [97, 116]))) (dC (.int 1))) (gSub (dVar 0) (dC (.str [97, 116]))))
    sNext)) sNext)
    (sSeq (sIf (dB (dBin vGt (dBin vIx (dVar 0) (dC (.str [108, 101, 102, 116]))) (dC (.int 0)))) (sSeq (sAsg (dBin vMod (dFn vInt (dBin vIx (dVar 0) (dC (.str [108, 101, 102, 116])))) (dVar 1)) (gName 3))
    (sSeq (sAsg (dBin vDiv (dBin vIx (dVar 0) (dC (.str [108, 101, 102, 116]))) (dVar 1)) (gSub (dVar 0) (dC (.str [108, 101, 102, 116]))))
    (sSeq (sRet (dVar 3))
    sNext))) sNext)
    (sSeq (sAsg (dBin vAdd (dBin vIx (dVar 0) (dC (.str [115, 97, 108, 116]))) (dC (.int 1))) (gSub (dVar 0) (dC (.str [115, 97, 108, 116]))))
    (sSeq (sAsg (dBin vMod (dFn vInt (dBin vAdd (dBin vMul (dBin vIx (dVar 0) (dC (.str [115, 101, 101, 100]))) (dC (.int 48271))) (dBin vMul (dBin vIx (dVar 0) (dC (.str [115, 97, 108, 116]))) (dC (.int 69621))))) (dC (.int 2147483647))) (gName 2))
    (sSeq (sAsg (dBin vMod (dFn vInt (dBin vAdd (dBin vAdd (dBin vMul (dVar 2) (dVar 2)) (dBin vMul (dBin vIx (dVar 0) (dC (.str [115, 97, 108, 116]))) (dC (.int 40692)))) (dC (.int 12345)))) (dC (.int 2147483399))) (gName 2))
    (sSeq (sRet (dBin vMod (dFn vInt (dVar 2)) (dVar 1)))
    sNext))))))
noncomputable def d__law_take (Γ : Gam) : DF := fun args h => runDef 4 (b__law_take Γ) args h
noncomputable def b__law_is_integer (Γ : Gam) : Stm := (sSeq (sRet (dAndV (dIsi .int (dVar 0)) (dNotV (dIsi .bool (dVar 0)))))
    sNext)
noncomputable def d__law_is_integer (Γ : Gam) : DF := fun args h => runDef 1 (b__law_is_integer Γ) args h
noncomputable def b__law_same_items (Γ : Gam) : Stm := (sSeq (sIf (dB (dBin vNe (dLen (dVar 0)) (dLen (dVar 1)))) (sSeq (sRet (dC (.bl false)))
    sNext) sNext)
    (sSeq (sFor (iRange1 (dLen (dVar 1))) (gName 2) (sSeq (sIf (dNot (dTru (dCall (Γ 7) (dCons (dBin vIx (dVar 0) (dVar 2)) (dCons (dBin vIx (dVar 1) (dVar 2)) dNil))))) (sSeq (sRet (dC (.bl false)))
    sNext) sNext)
    sNext))
    (sSeq (sRet (dC (.bl true)))
    sNext)))
noncomputable def d__law_same_items (Γ : Gam) : DF := fun args h => runDef 3 (b__law_same_items Γ) args h
noncomputable def b__law_same (Γ : Gam) : Stm := (sSeq (sIf (dB (dBin vIsN (dVar 1) (dC .non))) (sSeq (sRet (dBin vIsN (dVar 0) (dC .non)))
    sNext) sNext)
    (sSeq (sIf (dTru (dIsi .bool (dVar 1))) (sSeq (sRet (dAndV (dIsi .bool (dVar 0)) (dBin vEq (dVar 0) (dVar 1))))
    sNext) sNext)
    (sSeq (sIf (dTru (dIsi .int (dVar 1))) (sSeq (sRet (dAndV (dCall (Γ 5) (dCons (dVar 0) dNil)) (dBin vEq (dVar 0) (dVar 1))))
    sNext) sNext)
    (sSeq (sIf (dTru (dIsi .str (dVar 1))) (sSeq (sRet (dAndV (dIsi .str (dVar 0)) (dBin vEq (dVar 0) (dVar 1))))
    sNext) sNext)
    (sSeq (sIf (dTru (dIsi .tuple (dVar 1))) (sSeq (sRet (dAndV (dIsi .tuple (dVar 0)) (dCall (Γ 6) (dCons (dVar 0) (dCons (dVar 1) dNil)))))
    sNext) sNext)
    (sSeq (sIf (dTru (dIsi .list (dVar 1))) (sSeq (sRet (dAndV (dIsi .list (dVar 0)) (dCall (Γ 6) (dCons (dVar 0) (dCons (dVar 1) dNil)))))
    sNext) sNext)
    (sSeq (sIf (dOr (dNot (dTru (dIsi .dict (dVar 0)))) (dB (dBin vNe (dLen (dVar 0)) (dLen (dVar 1))))) (sSeq (sRet (dC (.bl false)))
    sNext) sNext)
    (sSeq (sFor (iSeq (dVar 1)) (gName 2) (sSeq (sIf (dOr (dB (dBin vNotIn (dVar 2) (dVar 0))) (dNot (dTru (dCall (Γ 7) (dCons (dBin vIx (dVar 0) (dVar 2)) (dCons (dBin vIx (dVar 1) (dVar 2)) dNil)))))) (sSeq (sRet (dC (.bl false)))
    sNext) sNext)
    sNext))
    (sSeq (sFor (iSeq (dVar 0)) (gName 2) (sSeq (sIf (dTru (dIsi .bool (dVar 2))) (sSeq (sRet (dC (.bl false)))
    sNext) sNext)
    sNext))
    (sSeq (sRet (dC (.bl true)))
    sNext))))))))))
noncomputable def d__law_same (Γ : Gam) : DF := fun args h => runDef 3 (b__law_same Γ) args h
noncomputable def b__law_atom (Γ : Gam) : Stm := (sSeq (sAsg (dCall (Γ 4) (dCons (dVar 0) (dCons (dC (.int 12)) dNil))) (gName 4))
    (sSeq (sIf (dAnd (dB (dBin vNe (dVar 3) (dLst dNil))) (dOr (dB (dBin vLt (dVar 4) (dC (.int 4)))) (dB (dBin vEq (dVar 2) (dLst dNil))))) (sSeq (sIf (dOr (dB (dBin vEq (dVar 2) (dLst dNil))) (dB (dBin vEq (dVar 4) (dC (.int 0))))) (sSeq (sRet (dTup (dCons (dC (.str [105, 110, 115, 105, 100, 101])) (dCons (dBin vIx (dVar 3) (dCall (Γ 4) (dCons (dVar 0) (dCons (dLen (dVar 3)) dNil)))) (dCons (dBin vIx (dVar 3) (dCall (Γ 4) (dCons (dVar 0) (dCons (dLen (dVar 3)) dNil)))) dNil)))))
    sNext) sNext)
    (sSeq (sRet (dTup (dCons (dC (.str [105, 110])) (dCons (dBin vIx (dVar 2) (dCall (Γ 4) (dCons (dVar 0) (dCons (dLen (dVar 2)) dNil)))) (dCons (dBin vIx (dVar 3) (dCall (Γ 4) (dCons (dVar 0) (dCons (dLen (dVar 3)) dNil)))) dNil)))))
    sNext)) sNext)
    (sSeq (sIf (dB (dBin vEq (dVar 2) (dLst dNil))) (sSeq (sRet (dTup (dCons (dC (.str [116, 114, 117, 101])) dNil)))
    sNext) sNext)
    (sSeq (sAsg (dBin vIx (dVar 2) (dCall (Γ 4) (dCons (dVar 0) (dCons (dLen (dVar 2)) dNil)))) (gName 5))
    (sSeq (sAsg (dBin vIx (dVar 2) (dCall (Γ 4) (dCons (dVar 0) (dCons (dLen (dVar 2)) dNil)))) (gName 6))
    (sSeq (sIf (dB (dBin vLt (dVar 4) (dC (.int 7)))) (sSeq (sRet (dTup (dCons (dC (.str [108, 97, 98, 101, 108])) (dCons (dBin vIx (dBin vIx (dVar 1) (dC (.int 1))) (dCall (Γ 4) (dCons (dVar 0) (dCons (dLen (dBin vIx (dVar 1) (dC (.int 1)))) dNil)))) (dCons (dVar 5) dNil)))))
    sNext) sNext)
    (sSeq (sIf (dB (dBin vEq (dVar 4) (dC (.int 7)))) (sSeq (sRet (dTup (dCons (dC (.str [116, 111, 112])) (dCons (dVar 5) dNil))))
    sNext) sNext)
    (sSeq (sIf (dB (dBin vEq (dVar 4) (dC (.int 8)))) (sSeq (sRet (dTup (dCons (dC (.str [115, 97, 109, 101])) (dCons (dVar 5) (dCons (dVar 6) dNil)))))
    sNext) sNext)
    (sSeq (sRet (dIf (dB (dBin vLt (dVar 4) (dC (.int 11)))) (dTup (dCons (dC (.str [99, 104, 105, 108, 100])) (dCons (dCall (Γ 4) (dCons (dVar 0) (dCons (dBin vIx (dVar 1) (dC (.int 0))) dNil))) (dCons (dVar 5) (dCons (dVar 6) dNil))))) (dTup (dCons (dC (.str [98, 101, 108, 111, 119])) (dCons (dVar 5) (dCons (dVar 6) dNil))))))
    sNext)))))))))
noncomputable def d__law_atom (Γ : Gam) : DF := fun args h => runDef 7 (b__law_atom Γ) args h
noncomputable def b__law_matrix (Γ : Gam) : Stm := (sSeq (sAsg (dIf (dB (dBin vGt (dVar 4) (dC (.int 0)))) (dCall (Γ 4) (dCons (dVar 0) (dCons (dC (.int 8)) dNil))) (dC (.int 0))) (gName 5))
    (sSeq (sIf (dB (dBin vLt (dVar 5) (dC (.int 3)))) (sSeq (sRet (dCall (Γ 8) (dCons (dVar 0) (dCons (dVar 1) (dCons (dVar 2) (dCons (dVar 3) dNil))))))
    sNext) sNext)
    (sSeq (sIf (dB (dBin vEq (dVar 5) (dC (.int 3)))) (sSeq (sRet (dTup (dCons (dC (.str [110, 111, 116])) (dCons (dCall (Γ 9) (dCons (dVar 0) (dCons (dVar 1) (dCons (dVar 2) (dCons (dVar 3) (dCons (dBin vSub (dVar 4) (dC (.int 1))) dNil)))))) dNil))))
    sNext) sNext)
    (sSeq (sIf (dB (dBin vLt (dVar 5) (dC (.int 7)))) (sSeq (sAsg (dBin vIx (dLst (dCons (dC (.str [97, 110, 100])) (dCons (dC (.str [111, 114])) dNil))) (dCall (Γ 4) (dCons (dVar 0) (dCons (dC (.int 2)) dNil)))) (gName 6))
    (sSeq (sAsg (dCall (Γ 9) (dCons (dVar 0) (dCons (dVar 1) (dCons (dVar 2) (dCons (dVar 3) (dCons (dBin vSub (dVar 4) (dC (.int 1))) dNil)))))) (gName 8))
    (sSeq (sRet (dTup (dCons (dVar 6) (dCons (dVar 8) (dCons (dCall (Γ 9) (dCons (dVar 0) (dCons (dVar 1) (dCons (dVar 2) (dCons (dVar 3) (dCons (dBin vSub (dVar 4) (dC (.int 1))) dNil)))))) dNil)))))
    sNext))) sNext)
    (sSeq (sAsg (dBin vIx (dLst (dCons (dC (.str [115, 111, 109, 101])) (dCons (dC (.str [97, 108, 108])) dNil))) (dCall (Γ 4) (dCons (dVar 0) (dCons (dC (.int 2)) dNil)))) (gName 6))
    (sSeq (sAsg (dBin vIx (dLst (dCons (dC (.str [120])) (dCons (dC (.str [121])) (dCons (dC (.str [122])) dNil)))) (dCall (Γ 4) (dCons (dVar 0) (dCons (dC (.int 3)) dNil)))) (gName 7))
    (sSeq (sRet (dTup (dCons (dVar 6) (dCons (dVar 7) (dCons (dCall (Γ 9) (dCons (dVar 0) (dCons (dVar 1) (dCons (dBin vAdd (dVar 2) (dLst (dCons (dVar 7) dNil))) (dCons (dVar 3) (dCons (dBin vSub (dVar 4) (dC (.int 1))) dNil)))))) dNil)))))
    sNext)))))))
noncomputable def d__law_matrix (Γ : Gam) : DF := fun args h => runDef 9 (b__law_matrix Γ) args h
noncomputable def b__law_put (Γ : Gam) : Stm := (sSeq (sAsg (dCut (dBin vIx (dVar 1) (dC (.str [116, 101, 120, 116]))) (oSome (dNeg (dC (.int 1)))) oNone) (gName 3))
    (sSeq (sAsg (dC (.str [97, 98, 99, 100, 101, 102, 103, 104, 105, 106, 107, 108, 109, 110, 111, 112, 113, 114, 115, 116, 117, 118, 119, 120, 121, 122, 65, 66, 67, 68, 69, 70, 71, 72, 73, 74, 75, 76, 77, 78, 79, 80, 81, 82, 83, 84, 85, 86, 87, 88, 89, 90, 48, 49, 50, 51, 52, 53, 54, 55, 56, 57])) (gName 4))
    (sSeq (sAsg (dBin vIx (dLst (dCons (dC (.str [32])) (dCons (dC (.str [])) (dCons (dC (.str [10])) (dCons (dC (.str [32, 32])) dNil))))) (dBin vDiv (dCall (Γ 4) (dCons (dVar 0) (dCons (dC (.int 16)) dNil))) (dC (.int 4)))) (gName 5))
    (sSeq (sIf (dAnd (dB (dBin vEq (dVar 5) (dC (.str [])))) (dAnd (dB (dBin vNe (dVar 3) (dC (.str [])))) (dAnd (dB (dBin vIn (dVar 3) (dVar 4))) (dB (dBin vIn (dBin vIx (dVar 2) (dC (.int 0))) (dVar 4)))))) (sSeq (sAsg (dC (.str [32])) (gName 5))
    sNext) sNext)
    (sSeq (sAsg (dBin vAdd (dBin vAdd (dBin vIx (dVar 1) (dC (.str [116, 101, 120, 116]))) (dVar 5)) (dVar 2)) (gSub (dVar 1) (dC (.str [116, 101, 120, 116]))))
    sNext)))))
noncomputable def d__law_put (Γ : Gam) : DF := fun args h => runDef 6 (b__law_put Γ) args h
noncomputable def b__law_put_all (Γ : Gam) : Stm := (sSeq (sFor (iSeq (dVar 2)) (gName 3) (sSeq (sExpr (dCall (Γ 10) (dCons (dVar 0) (dCons (dVar 1) (dCons (dVar 3) dNil)))))
    sNext))
    sNext)
noncomputable def d__law_put_all (Γ : Gam) : DF := fun args h => runDef 4 (b__law_put_all Γ) args h
noncomputable def b__law_put_formula (Γ : Gam) : Stm := (sSeq (sAsg (dBin vIx (dVar 2) (dC (.int 0))) (gName 4))
    (sSeq (sAsg (dGet2 (dDisp (((dC (.str [111, 114])), (dC (.int 0))) :: (((dC (.str [97, 110, 100])), (dC (.int 1))) :: []))) (dVar 4) (dIf (dB (dBin vIn (dVar 4) (dLst (dCons (dC (.str [108, 97, 98, 101, 108])) (dCons (dC (.str [99, 104, 105, 108, 100])) (dCons (dC (.str [98, 101, 108, 111, 119])) (dCons (dC (.str [115, 97, 109, 101])) (dCons (dC (.str [116, 111, 112])) (dCons (dC (.str [105, 110])) (dCons (dC (.str [105, 110, 115, 105, 100, 101])) (dCons (dC (.str [116, 114, 117, 101])) dNil))))))))))) (dC (.int 3)) (dC (.int 2)))) (gName 5))
    (sSeq (sAsg (dOrV (dBin vLt (dVar 5) (dVar 3)) (dBin vEq (dCall (Γ 4) (dCons (dVar 0) (dCons (dC (.int 6)) dNil))) (dC (.int 0)))) (gName 6))
    (sSeq (sIf (dTru (dVar 6)) (sSeq (sExpr (dCall (Γ 10) (dCons (dVar 0) (dCons (dVar 1) (dCons (dC (.str [40])) dNil)))))
    sNext) sNext)
    (sSeq (sIf (dB (dBin vEq (dVar 4) (dC (.str [116, 114, 117, 101])))) (sSeq (sExpr (dCall (Γ 10) (dCons (dVar 0) (dCons (dVar 1) (dCons (dVar 4) dNil)))))
    sNext) (sSeq (sIf (dB (dBin vIn (dVar 4) (dLst (dCons (dC (.str [108, 97, 98, 101, 108])) (dCons (dC (.str [99, 104, 105, 108, 100])) dNil))))) (sSeq (sAsg (dFn vList (dCut (dVar 2) (oSome (dC (.int 2))) oNone)) (gName 7))
    (sSeq (sExpr (dCall (Γ 11) (dCons (dVar 0) (dCons (dVar 1) (dCons (dBin vAdd (dBin vAdd (dLst (dCons (dVar 4) (dCons (dFn vStr (dBin vIx (dVar 2) (dC (.int 1)))) (dCons (dC (.str [40])) (dCons (dBin vIx (dVar 7) (dC (.int 0))) dNil))))) (dBin vMul (dLst (dCons (dC (.str [44])) (dCons (dBin vIx (dVar 7) (dNeg (dC (.int 1)))) dNil))) (dBin vSub (dLen (dVar 7)) (dC (.int 1))))) (dLst (dCons (dC (.str [41])) dNil))) dNil)))))
    sNext)) (sSeq (sIf (dB (dBin vEq (dVar 5) (dC (.int 3)))) (sSeq (sExpr (dCall (Γ 11) (dCons (dVar 0) (dCons (dVar 1) (dCons (dBin vAdd (dBin vAdd (dLst (dCons (dVar 4) (dCons (dC (.str [40])) (dCons (dBin vIx (dVar 2) (dC (.int 1))) dNil)))) (dBin vMul (dLst (dCons (dC (.str [44])) (dCons (dBin vIx (dVar 2) (dNeg (dC (.int 1)))) dNil))) (dBin vSub (dLen (dVar 2)) (dC (.int 2))))) (dLst (dCons (dC (.str [41])) dNil))) dNil)))))
    sNext) (sSeq (sIf (dB (dBin vEq (dVar 4) (dC (.str [110, 111, 116])))) (sSeq (sExpr (dCall (Γ 10) (dCons (dVar 0) (dCons (dVar 1) (dCons (dVar 4) dNil)))))
    (sSeq (sExpr (dCall (Γ 12) (dCons (dVar 0) (dCons (dVar 1) (dCons (dBin vIx (dVar 2) (dC (.int 1))) (dCons (dC (.int 2)) dNil))))))
    sNext)) (sSeq (sIf (dB (dBin vLt (dVar 5) (dC (.int 2)))) (sSeq (sExpr (dCall (Γ 12) (dCons (dVar 0) (dCons (dVar 1) (dCons (dBin vIx (dVar 2) (dC (.int 1))) (dCons (dVar 5) dNil))))))
    (sSeq (sExpr (dCall (Γ 10) (dCons (dVar 0) (dCons (dVar 1) (dCons (dVar 4) dNil)))))
    (sSeq (sExpr (dCall (Γ 12) (dCons (dVar 0) (dCons (dVar 1) (dCons (dBin vIx (dVar 2) (dC (.int 2))) (dCons (dBin vAdd (dVar 5) (dC (.int 1))) dNil))))))
    sNext))) (sSeq (sExpr (dCall (Γ 11) (dCons (dVar 0) (dCons (dVar 1) (dCons (dLst (dCons (dIf (dB (dBin vIn (dVar 4) (dLst (dCons (dC (.str [115, 111, 109, 101])) (dCons (dC (.str [115, 111, 109, 101, 115, 101, 116])) dNil))))) (dC (.str [115, 111, 109, 101])) (dC (.str [97, 108, 108]))) (dCons (dBin vIx (dVar 2) (dC (.int 1))) (dCons (dC (.str [58])) dNil)))) dNil)))))
    (sSeq (sExpr (dCall (Γ 12) (dCons (dVar 0) (dCons (dVar 1) (dCons (dBin vIx (dVar 2) (dC (.int 2))) (dCons (dC (.int 2)) dNil))))))
    sNext)))
    sNext))
    sNext))
    sNext))
    sNext))
    (sSeq (sIf (dTru (dVar 6)) (sSeq (sExpr (dCall (Γ 10) (dCons (dVar 0) (dCons (dVar 1) (dCons (dC (.str [41])) dNil)))))
    sNext) sNext)
    sNext))))))
noncomputable def d__law_put_formula (Γ : Gam) : DF := fun args h => runDef 8 (b__law_put_formula Γ) args h
noncomputable def b__law_read (Γ : Gam) : Stm := (sSeq (sTryFld 1 [83, 121, 110, 116, 97, 120, 80, 114, 111, 98, 108, 101, 109] [115, 116, 97, 114, 116] (sSeq (sExpr (dCall (Γ 2) (dCons (dVar 0) dNil)))
    sNext))
    (sSeq (sRet (dC .non))
    sNext))
noncomputable def d__law_read (Γ : Gam) : DF := fun args h => tidy (runDef 2 (b__law_read Γ) args h) h
noncomputable def b__law_scraps (Γ : Gam) : Stm := (sSeq (sAsg (dLst (dCons (dC (.str [115, 111, 109, 101])) (dCons (dC (.str [120])) (dCons (dC (.str [88])) (dCons (dC (.str [58])) (dCons (dC (.str [40])) (dCons (dC (.str [41])) (dCons (dC (.str [44])) (dCons (dC (.str [108, 97, 98, 101, 108])) (dCons (dC (.str [97])) (dCons (dC (.str [99, 104, 105, 108, 100])) (dCons (dC (.str [48])) (dCons (dC (.str [105, 110])) (dCons (dC (.str [110, 111, 116])) (dCons (dC (.str [97, 110, 100])) (dCons (dC (.str [111, 114])) (dCons (dC (.str [116, 114, 117, 101])) (dCons (dC (.str [63])) (dCons (dC (.str [116, 111, 112])) dNil))))))))))))))))))) (gName 1))
    (sSeq (sRet (dLc frozen [2] (iRange1 (dCall (Γ 4) (dCons (dVar 0) (dCons (dC (.int 12)) dNil)))) (gName 2) dYes (dBin vIx (dVar 1) (dCall (Γ 4) (dCons (dVar 0) (dCons (dC (.int 18)) dNil))))))
    sNext))
noncomputable def d__law_scraps (Γ : Gam) : DF := fun args h => runDef 3 (b__law_scraps Γ) args h
noncomputable def b__law_tokens (Γ : Gam) : Stm := (sSeq (sAsg (dLstM dNil) (gName 1))
    (sSeq (sAsg (dC (.int 0)) (gName 2))
    (sSeq (sAsg (dC (.str [97, 98, 99, 100, 101, 102, 103, 104, 105, 106, 107, 108, 109, 110, 111, 112, 113, 114, 115, 116, 117, 118, 119, 120, 121, 122, 65, 66, 67, 68, 69, 70, 71, 72, 73, 74, 75, 76, 77, 78, 79, 80, 81, 82, 83, 84, 85, 86, 87, 88, 89, 90])) (gName 3))
    (sSeq (sFor (iRange1 (dLen (dVar 0))) (gName 4) (sSeq (sIf (dOr (dB (dBin vLt (dVar 4) (dVar 2))) (dOr (dB (dBin vEq (dBin vIx (dVar 0) (dVar 4)) (dC (.str [32])))) (dB (dBin vEq (dBin vIx (dVar 0) (dVar 4)) (dC (.str [10])))))) (sSeq sCont
    sNext) sNext)
    (sSeq (sAsg (dBin vAdd (dVar 4) (dC (.int 1))) (gName 2))
    (sSeq (sIf (dB (dBin vIn (dBin vIx (dVar 0) (dVar 4)) (dVar 3))) (sSeq (sFor (iSeq (dCut (dVar 0) (oSome (dBin vAdd (dVar 4) (dC (.int 1)))) oNone)) (gName 5) (sSeq (sIf (dB (dBin vNotIn (dVar 5) (dBin vAdd (dVar 3) (dC (.str [48, 49, 50, 51, 52, 53, 54, 55, 56, 57]))))) (sSeq sBreak
    sNext) sNext)
    (sSeq (sAsg (dBin vAdd (dVar 2) (dC (.int 1))) (gName 2))
    sNext)))
    sNext) sNext)
    (sSeq (sExpr (dMeth1 isLst vAppend (dVar 1) (dTup (dCons (dVar 4) (dCons (dVar 2) dNil)))))
    sNext)))))
    (sSeq (sRet (dVar 1))
    sNext)))))
noncomputable def d__law_tokens (Γ : Gam) : DF := fun args h => tidy (runDef 6 (b__law_tokens Γ) args h) h
noncomputable def b__law_typed_right (Γ : Gam) : Stm := (sSeq (sAsg (dLst (dCons (dTup (dCons (dC (.str [108, 97, 98, 101, 108, 32, 97, 98, 40, 120, 41])) (dCons (dC (.int 6)) dNil))) (dCons (dTup (dCons (dC (.str [108, 97, 98, 101, 108, 32, 66, 40, 120, 41])) (dCons (dC (.int 6)) dNil))) (dCons (dTup (dCons (dC (.str [105, 110, 40, 88, 44, 32, 88, 41])) (dCons (dC (.int 3)) dNil))) (dCons (dTup (dCons (dC (.str [105, 110, 40, 120, 44, 32, 121, 41])) (dCons (dC (.int 6)) dNil))) (dCons (dTup (dCons (dC (.str [105, 110, 115, 105, 100, 101, 40, 120, 44, 32, 89, 41])) (dCons (dC (.int 7)) dNil))) (dCons (dTup (dCons (dC (.str [98, 101, 108, 111, 119, 40, 120, 44, 32, 89, 41])) (dCons (dC (.int 9)) dNil))) dNil))))))) (gName 1))
    (sSeq (sAsg (dBin vAdd (dVar 1) (dLst (dCons (dTup (dCons (dC (.str [99, 104, 105, 108, 100, 32, 50, 40, 120, 44, 32, 121, 41])) (dCons (dC (.int 6)) dNil))) (dCons (dTup (dCons (dC (.str [99, 104, 105, 108, 100, 32, 48, 40, 88, 44, 32, 121, 41])) (dCons (dC (.int 8)) dNil))) (dCons (dTup (dCons (dC (.str [115, 111, 109, 101, 32, 58, 32, 116, 114, 117, 101])) (dCons (dC (.int 5)) dNil))) (dCons (dTup (dCons (dC (.str [97, 108, 108, 32, 120, 32, 116, 114, 117, 101])) (dCons (dC (.int 6)) dNil))) (dCons (dTup (dCons (dC (.str [110, 111, 116])) (dCons (dC (.int 3)) dNil))) (dCons (dTup (dCons (dC (.str [])) (dCons (dC (.int 0)) dNil))) dNil)))))))) (gName 1))
    (sSeq (sAsg (dBin vAdd (dVar 1) (dLst (dCons (dTup (dCons (dC (.str [40, 116, 114, 117, 101])) (dCons (dC (.int 5)) dNil))) (dCons (dTup (dCons (dC (.str [116, 114, 117, 101, 32, 116, 114, 117, 101])) (dCons (dC (.int 5)) dNil))) (dCons (dTup (dCons (dC (.str [116, 111, 112, 40, 120, 41, 32, 97, 110, 100])) (dCons (dC (.int 10)) dNil))) (dCons (dTup (dCons (dC (.str [115, 111, 109, 101, 32, 97, 110, 100, 58, 32, 116, 114, 117, 101])) (dCons (dC (.int 5)) dNil))) (dCons (dTup (dCons (dC (.str [108, 97, 98, 101, 108, 32, 97, 40, 88, 41])) (dCons (dC (.int 8)) dNil))) (dCons (dTup (dCons (dC (.str [115, 97, 109, 101, 40, 120, 32, 121, 41])) (dCons (dC (.int 7)) dNil))) dNil)))))))) (gName 1))
    (sSeq (sAsg (dBin vIx (dVar 1) (dCall (Γ 4) (dCons (dVar 0) (dCons (dLen (dVar 1)) dNil)))) (gTup 2 (gsCons (gName 2) (gsCons (gName 3) gsNil))))
    (sSeq (sRet (dCall (Γ 7) (dCons (dCall (Γ 13) (dCons (dVar 2) dNil)) (dCons (dVar 3) dNil))))
    sNext)))))
noncomputable def d__law_typed_right (Γ : Gam) : DF := fun args h => runDef 4 (b__law_typed_right Γ) args h
noncomputable def b_law (Γ : Gam) : Stm := (sSeq (sAsg (dCall (Γ 3) (dCons (dVar 0) dNil)) (gName 1))
    (sSeq (sFor (iRange1 (dC (.int 3))) (gName 2) (sSeq (sIf (dNot (dTru (dCall (Γ 16) (dCons (dVar 1) dNil)))) (sSeq (sRet (dC (.bl false)))
    sNext) sNext)
    sNext))
    (sSeq (sAsg (dDisp (((dC (.str [116, 101, 120, 116])), (dC (.str []))) :: [])) (gName 3))
    (sSeq (sExpr (dCall (Γ 12) (dCons (dVar 1) (dCons (dVar 3) (dCons (dCall (Γ 9) (dCons (dVar 1) (dCons (dTup (dCons (dC (.int 2)) (dCons (dTup (dCons (dC (.str [97])) (dCons (dC (.str [98])) dNil))) dNil))) (dCons (dLst (dCons (dC (.str [120])) (dCons (dC (.str [121])) dNil))) (dCons (dLst (dCons (dC (.str [88])) dNil)) (dCons (dC (.int 3)) dNil)))))) (dCons (dC (.int 0)) dNil))))))
    (sSeq (sAsg (dCall (Γ 15) (dCons (dBin vIx (dVar 3) (dC (.str [116, 101, 120, 116]))) dNil)) (gName 4))
    (sSeq (sIf (dOr (dB (dBin vNotN (dCall (Γ 13) (dCons (dBin vIx (dVar 3) (dC (.str [116, 101, 120, 116]))) dNil)) (dC .non))) (dB (dBin vIsN (dCall (Γ 13) (dCons (dCut (dBin vIx (dVar 3) (dC (.str [116, 101, 120, 116]))) oNone (oSome (dBin vIx (dBin vIx (dVar 4) (dNeg (dC (.int 1)))) (dC (.int 0))))) dNil)) (dC .non)))) (sSeq (sRet (dC (.bl false)))
    sNext) sNext)
    (sSeq (sAsg (dCall (Γ 4) (dCons (dVar 1) (dCons (dLen (dVar 4)) dNil))) (gName 2))
    (sSeq (sAsg (dLc frozen [14, 12] (iSeq (dVar 4)) (gTup 2 (gsCons (gName 14) (gsCons (gName 12) gsNil))) dYes (dCut (dBin vIx (dVar 3) (dC (.str [116, 101, 120, 116]))) (oSome (dVar 14)) (oSome (dVar 12)))) (gName 5))
    (sSeq (sAsg (dCall (Γ 4) (dCons (dVar 1) (dCons (dC (.int 5)) dNil))) (gName 6))
    (sSeq (sAsg (dCall (Γ 14) (dCons (dVar 1) dNil)) (gName 7))
    (sSeq (sIf (dB (dBin vEq (dVar 6) (dC (.int 0)))) (sSeq (sAsg (dCut (dVar 5) oNone (oSome (dVar 2))) (gName 5))
    sNext) (sSeq (sIf (dB (dBin vEq (dVar 6) (dC (.int 1)))) (sSeq (sAsg (dBin vAdd (dCut (dVar 5) oNone (oSome (dVar 2))) (dCut (dVar 5) (oSome (dBin vAdd (dVar 2) (dC (.int 1)))) oNone)) (gName 5))
    sNext) (sSeq (sIf (dB (dBin vEq (dVar 6) (dC (.int 2)))) (sSeq (sAsg (dVar 7) (gName 5))
    sNext) (sSeq (sAsg (dBin vAdd (dBin vAdd (dCut (dVar 5) oNone (oSome (dVar 2))) (dCut (dVar 7) oNone (oSome (dBin vAdd (dC (.int 1)) (dCall (Γ 4) (dCons (dVar 1) (dCons (dC (.int 2)) dNil))))))) (dCut (dVar 5) (oSome (dBin vAdd (dVar 2) (dCall (Γ 4) (dCons (dVar 1) (dCons (dC (.int 2)) dNil))))) oNone)) (gName 5))
    sNext))
    sNext))
    sNext))
    (sSeq (sAsg (dMeth1 isStr vJoin (dC (.str [32])) (dVar 5)) (gName 8))
    (sSeq (sAsg (dCall (Γ 13) (dCons (dVar 8) dNil)) (gName 9))
    (sSeq (sAsg (dCall (Γ 15) (dCons (dVar 8) dNil)) (gName 4))
    (sSeq (sIf (dOr (dB (dBin vIsN (dVar 9) (dC .non))) (dB (dBin vEq (dVar 4) (dLst dNil)))) (sSeq (sRet (dOrV (dAndV (dBin vIsN (dVar 9) (dC .non)) (dBin vNe (dVar 4) (dLst dNil))) (dAndV (dBin vEq (dVar 4) (dLst dNil)) (dBin vEq (dVar 9) (dC (.int 0))))))
    sNext) sNext)
    (sSeq (sAsg (dLc frozen [14, 12] (iSeq (dVar 4)) (gTup 2 (gsCons (gName 14) (gsCons (gName 12) gsNil))) dYes (dVar 14)) (gName 10))
    (sSeq (sIf (dAnd (dB (dBin vEq (dVar 9) (dBin vIx (dBin vIx (dVar 4) (dNeg (dC (.int 1)))) (dC (.int 1))))) (dB (dBin vNotIn (dVar 9) (dVar 10)))) (sSeq (sRet (dC (.bl true)))
    sNext) sNext)
    (sSeq (sIf (dB (dBin vNotIn (dVar 9) (dVar 10))) (sSeq (sRet (dC (.bl false)))
    sNext) sNext)
    (sSeq (sAsg (dMeth1 isLst vIndex (dVar 10) (dVar 9)) (gName 11))
    (sSeq (sIf (dB (dBin vGt (dVar 11) (dC (.int 0)))) (sSeq (sAsg (dBin vIx (dBin vIx (dVar 4) (dBin vSub (dVar 11) (dC (.int 1)))) (dC (.int 1))) (gName 12))
    (sSeq (sAsg (dCall (Γ 13) (dCons (dCut (dVar 8) oNone (oSome (dVar 12))) dNil)) (gName 13))
    (sSeq (sIf (dAnd (dB (dBin vNotN (dVar 13) (dC .non))) (dB (dBin vNe (dVar 13) (dVar 12)))) (sSeq (sRet (dC (.bl false)))
    sNext) sNext)
    sNext))) sNext)
    (sSeq (sRet (dCall (Γ 7) (dCons (dCall (Γ 13) (dCons (dCut (dVar 8) oNone (oSome (dBin vIx (dBin vIx (dVar 4) (dVar 11)) (dC (.int 1))))) dNil)) (dCons (dVar 9) dNil))))
    sNext)))))))))))))))))))))
noncomputable def d_law (Γ : Gam) : DF := fun args h => runDef 15 (b_law Γ) args h
noncomputable def b_Reader_init (Γ : Gam) : Stm := (sSeq (sAsg (dCall (Γ 1) (dCons (dVar 1) dNil)) (gFld [82, 101, 97, 100, 101, 114] [102, 111, 117, 110, 100] (dVar 0)))
    (sSeq (sAsg (dC (.int 0)) (gFld [82, 101, 97, 100, 101, 114] [97, 116] (dVar 0)))
    sNext))
noncomputable def d_Reader_init (Γ : Gam) : DF := fun args h => runDef 2 (b_Reader_init Γ) args h
noncomputable def b_Reader_need (Γ : Gam) : Stm := (sSeq (sIf (dTru (dVar 1)) (sSeq sRetN
    sNext) sNext)
    (sSeq (sIf (dB (dBin vLt (dFld [82, 101, 97, 100, 101, 114] [97, 116] (dVar 0)) (dLen (dFld [82, 101, 97, 100, 101, 114] [102, 111, 117, 110, 100] (dVar 0))))) (sSeq (sRaiseF [83, 121, 110, 116, 97, 120, 80, 114, 111, 98, 108, 101, 109] [115, 116, 97, 114, 116] (dBin vIx (dBin vIx (dFld [82, 101, 97, 100, 101, 114] [102, 111, 117, 110, 100] (dVar 0)) (dFld [82, 101, 97, 100, 101, 114] [97, 116] (dVar 0))) (dC (.int 2))))
    sNext) sNext)
    (sSeq (sIf (dNot (dTru (dFld [82, 101, 97, 100, 101, 114] [102, 111, 117, 110, 100] (dVar 0)))) (sSeq (sRaiseF [83, 121, 110, 116, 97, 120, 80, 114, 111, 98, 108, 101, 109] [115, 116, 97, 114, 116] (dC (.int 0)))
    sNext) sNext)
    (sSeq (sRaiseF [83, 121, 110, 116, 97, 120, 80, 114, 111, 98, 108, 101, 109] [115, 116, 97, 114, 116] (dBin vAdd (dBin vIx (dBin vIx (dFld [82, 101, 97, 100, 101, 114] [102, 111, 117, 110, 100] (dVar 0)) (dNeg (dC (.int 1)))) (dC (.int 2))) (dLen (dBin vIx (dBin vIx (dFld [82, 101, 97, 100, 101, 114] [102, 111, 117, 110, 100] (dVar 0)) (dNeg (dC (.int 1)))) (dC (.int 1))))))
    sNext))))
noncomputable def d_Reader_need (Γ : Gam) : DF := fun args h => runDef 2 (b_Reader_need Γ) args h
noncomputable def b_Reader_fixed (Γ : Gam) : Stm := (sSeq (sIf (dAnd (dB (dBin vLt (dFld [82, 101, 97, 100, 101, 114] [97, 116] (dVar 0)) (dLen (dFld [82, 101, 97, 100, 101, 114] [102, 111, 117, 110, 100] (dVar 0))))) (dB (dBin vIn (dBin vIx (dBin vIx (dFld [82, 101, 97, 100, 101, 114] [102, 111, 117, 110, 100] (dVar 0)) (dFld [82, 101, 97, 100, 101, 114] [97, 116] (dVar 0))) (dC (.int 0))) (dTup (dCons (dC (.str [119, 111, 114, 100])) (dCons (dC (.str [115, 105, 103, 110])) dNil)))))) (sSeq (sRet (dBin vIx (dBin vIx (dFld [82, 101, 97, 100, 101, 114] [102, 111, 117, 110, 100] (dVar 0)) (dFld [82, 101, 97, 100, 101, 114] [97, 116] (dVar 0))) (dC (.int 1))))
    sNext) sNext)
    (sSeq (sRet (dC (.str [])))
    sNext))
noncomputable def d_Reader_fixed (Γ : Gam) : DF := fun args h => runDef 1 (b_Reader_fixed Γ) args h
noncomputable def b_Reader_take (Γ : Gam) : Stm := (sSeq (sExpr (dMth [82, 101, 97, 100, 101, 114] [110, 101, 101, 100] (Γ 19) (dVar 0) (dCons (dBin vEq (dMth [82, 101, 97, 100, 101, 114] [102, 105, 120, 101, 100] (Γ 20) (dVar 0) dNil) (dVar 1)) dNil)))
    (sSeq (sFldAug [82, 101, 97, 100, 101, 114] [97, 116] (dVar 0) (dC (.int 1)))
    sNext))
noncomputable def d_Reader_take (Γ : Gam) : DF := fun args h => runDef 2 (b_Reader_take Γ) args h
noncomputable def b_Reader_name (Γ : Gam) : Stm := (sSeq (sExpr (dMth [82, 101, 97, 100, 101, 114] [110, 101, 101, 100] (Γ 19) (dVar 0) (dCons (dAndV (dBin vLt (dFld [82, 101, 97, 100, 101, 114] [97, 116] (dVar 0)) (dLen (dFld [82, 101, 97, 100, 101, 114] [102, 111, 117, 110, 100] (dVar 0)))) (dBin vEq (dBin vIx (dBin vIx (dFld [82, 101, 97, 100, 101, 114] [102, 111, 117, 110, 100] (dVar 0)) (dFld [82, 101, 97, 100, 101, 114] [97, 116] (dVar 0))) (dC (.int 0))) (dC (.str [110, 97, 109, 101])))) dNil)))
    (sSeq (sAsg (dBin vIx (dBin vIx (dFld [82, 101, 97, 100, 101, 114] [102, 111, 117, 110, 100] (dVar 0)) (dFld [82, 101, 97, 100, 101, 114] [97, 116] (dVar 0))) (dC (.int 1))) (gName 2))
    (sSeq (sIf (dB (dBin vEq (dVar 1) (dC (.str [108, 97, 98, 101, 108])))) (sSeq (sExpr (dMth [82, 101, 97, 100, 101, 114] [110, 101, 101, 100] (Γ 19) (dVar 0) (dCons (dAndV (dBin vEq (dLen (dVar 2)) (dC (.int 1))) (dNotV (dCall (Γ 0) (dCons (dVar 2) dNil)))) dNil)))
    sNext) (sSeq (sIf (dB (dBin vNe (dVar 1) (dC (.str [97, 110, 121])))) (sSeq (sExpr (dMth [82, 101, 97, 100, 101, 114] [110, 101, 101, 100] (Γ 19) (dVar 0) (dCons (dBin vEq (dCall (Γ 0) (dCons (dVar 2) dNil)) (dBin vEq (dVar 1) (dC (.str [115, 101, 116])))) dNil)))
    sNext) sNext)
    sNext))
    (sSeq (sFldAug [82, 101, 97, 100, 101, 114] [97, 116] (dVar 0) (dC (.int 1)))
    (sSeq (sRet (dVar 2))
    sNext)))))
noncomputable def d_Reader_name (Γ : Gam) : DF := fun args h => runDef 3 (b_Reader_name Γ) args h
noncomputable def b_Reader_either (Γ : Gam) : Stm := (sSeq (sAsg (dMth [82, 101, 97, 100, 101, 114] [98, 111, 116, 104] (Γ 24) (dVar 0) dNil) (gName 1))
    (sSeq (sWhile (dB (dBin vEq (dMth [82, 101, 97, 100, 101, 114] [102, 105, 120, 101, 100] (Γ 20) (dVar 0) dNil) (dC (.str [111, 114])))) (sSeq (sFldAug [82, 101, 97, 100, 101, 114] [97, 116] (dVar 0) (dC (.int 1)))
    (sSeq (sAsg (dTup (dCons (dC (.str [111, 114])) (dCons (dVar 1) (dCons (dMth [82, 101, 97, 100, 101, 114] [98, 111, 116, 104] (Γ 24) (dVar 0) dNil) dNil)))) (gName 1))
    sNext)))
    (sSeq (sRet (dVar 1))
    sNext)))
noncomputable def d_Reader_either (Γ : Gam) : DF := fun args h => runDef 2 (b_Reader_either Γ) args h
noncomputable def b_Reader_both (Γ : Gam) : Stm := (sSeq (sAsg (dMth [82, 101, 97, 100, 101, 114] [100, 101, 110, 105, 101, 100] (Γ 25) (dVar 0) dNil) (gName 1))
    (sSeq (sWhile (dB (dBin vEq (dMth [82, 101, 97, 100, 101, 114] [102, 105, 120, 101, 100] (Γ 20) (dVar 0) dNil) (dC (.str [97, 110, 100])))) (sSeq (sFldAug [82, 101, 97, 100, 101, 114] [97, 116] (dVar 0) (dC (.int 1)))
    (sSeq (sAsg (dTup (dCons (dC (.str [97, 110, 100])) (dCons (dVar 1) (dCons (dMth [82, 101, 97, 100, 101, 114] [100, 101, 110, 105, 101, 100] (Γ 25) (dVar 0) dNil) dNil)))) (gName 1))
    sNext)))
    (sSeq (sRet (dVar 1))
    sNext)))
noncomputable def d_Reader_both (Γ : Gam) : DF := fun args h => runDef 2 (b_Reader_both Γ) args h
noncomputable def b_Reader_denied (Γ : Gam) : Stm := (sSeq (sAsg (dMth [82, 101, 97, 100, 101, 114] [102, 105, 120, 101, 100] (Γ 20) (dVar 0) dNil) (gName 1))
    (sSeq (sIf (dB (dBin vEq (dVar 1) (dC (.str [110, 111, 116])))) (sSeq (sFldAug [82, 101, 97, 100, 101, 114] [97, 116] (dVar 0) (dC (.int 1)))
    (sSeq (sRet (dTup (dCons (dC (.str [110, 111, 116])) (dCons (dMth [82, 101, 97, 100, 101, 114] [100, 101, 110, 105, 101, 100] (Γ 25) (dVar 0) dNil) dNil))))
    sNext)) sNext)
    (sSeq (sIf (dOr (dB (dBin vEq (dVar 1) (dC (.str [115, 111, 109, 101])))) (dB (dBin vEq (dVar 1) (dC (.str [97, 108, 108]))))) (sSeq (sFldAug [82, 101, 97, 100, 101, 114] [97, 116] (dVar 0) (dC (.int 1)))
    (sSeq (sAsg (dMth [82, 101, 97, 100, 101, 114] [110, 97, 109, 101] (Γ 22) (dVar 0) (dCons (dC (.str [97, 110, 121])) dNil)) (gName 2))
    (sSeq (sExpr (dMth [82, 101, 97, 100, 101, 114] [116, 97, 107, 101] (Γ 21) (dVar 0) (dCons (dC (.str [58])) dNil)))
    (sSeq (sIf (dTru (dCall (Γ 0) (dCons (dVar 2) dNil))) (sSeq (sAsg (dBin vAdd (dVar 1) (dC (.str [115, 101, 116]))) (gName 1))
    sNext) sNext)
    (sSeq (sRet (dTup (dCons (dVar 1) (dCons (dVar 2) (dCons (dMth [82, 101, 97, 100, 101, 114] [100, 101, 110, 105, 101, 100] (Γ 25) (dVar 0) dNil) dNil)))))
    sNext))))) sNext)
    (sSeq (sRet (dMth [82, 101, 97, 100, 101, 114] [115, 105, 109, 112, 108, 101] (Γ 28) (dVar 0) dNil))
    sNext))))
noncomputable def d_Reader_denied (Γ : Gam) : DF := fun args h => runDef 3 (b_Reader_denied Γ) args h
noncomputable def b_Reader_pair (Γ : Gam) : Stm := (sSeq (sExpr (dMth [82, 101, 97, 100, 101, 114] [116, 97, 107, 101] (Γ 21) (dVar 0) (dCons (dC (.str [40])) dNil)))
    (sSeq (sAsg (dMth [82, 101, 97, 100, 101, 114] [110, 97, 109, 101] (Γ 22) (dVar 0) (dCons (dVar 1) dNil)) (gName 3))
    (sSeq (sExpr (dMth [82, 101, 97, 100, 101, 114] [116, 97, 107, 101] (Γ 21) (dVar 0) (dCons (dC (.str [44])) dNil)))
    (sSeq (sAsg (dMth [82, 101, 97, 100, 101, 114] [110, 97, 109, 101] (Γ 22) (dVar 0) (dCons (dVar 2) dNil)) (gName 4))
    (sSeq (sExpr (dMth [82, 101, 97, 100, 101, 114] [116, 97, 107, 101] (Γ 21) (dVar 0) (dCons (dC (.str [41])) dNil)))
    (sSeq (sRet (dTup (dCons (dVar 3) (dCons (dVar 4) dNil))))
    sNext))))))
noncomputable def d_Reader_pair (Γ : Gam) : DF := fun args h => runDef 5 (b_Reader_pair Γ) args h
noncomputable def b_Reader_single (Γ : Gam) : Stm := (sSeq (sExpr (dMth [82, 101, 97, 100, 101, 114] [116, 97, 107, 101] (Γ 21) (dVar 0) (dCons (dC (.str [40])) dNil)))
    (sSeq (sAsg (dMth [82, 101, 97, 100, 101, 114] [110, 97, 109, 101] (Γ 22) (dVar 0) (dCons (dC (.str [101, 108, 101, 109, 101, 110, 116])) dNil)) (gName 1))
    (sSeq (sExpr (dMth [82, 101, 97, 100, 101, 114] [116, 97, 107, 101] (Γ 21) (dVar 0) (dCons (dC (.str [41])) dNil)))
    (sSeq (sRet (dVar 1))
    sNext))))
noncomputable def d_Reader_single (Γ : Gam) : DF := fun args h => runDef 2 (b_Reader_single Γ) args h
noncomputable def b_Reader_simple (Γ : Gam) : Stm := (sSeq (sAsg (dMth [82, 101, 97, 100, 101, 114] [102, 105, 120, 101, 100] (Γ 20) (dVar 0) dNil) (gName 1))
    (sSeq (sExpr (dMth [82, 101, 97, 100, 101, 114] [110, 101, 101, 100] (Γ 19) (dVar 0) (dCons (dBin vIn (dVar 1) (dTup (dCons (dC (.str [40])) (dCons (dC (.str [116, 114, 117, 101])) (dCons (dC (.str [108, 97, 98, 101, 108])) (dCons (dC (.str [99, 104, 105, 108, 100])) (dCons (dC (.str [98, 101, 108, 111, 119])) (dCons (dC (.str [115, 97, 109, 101])) (dCons (dC (.str [105, 110])) (dCons (dC (.str [105, 110, 115, 105, 100, 101])) (dCons (dC (.str [116, 111, 112])) dNil))))))))))) dNil)))
    (sSeq (sFldAug [82, 101, 97, 100, 101, 114] [97, 116] (dVar 0) (dC (.int 1)))
    (sSeq (sIf (dB (dBin vEq (dVar 1) (dC (.str [40])))) (sSeq (sAsg (dMth [82, 101, 97, 100, 101, 114] [101, 105, 116, 104, 101, 114] (Γ 23) (dVar 0) dNil) (gName 3))
    (sSeq (sExpr (dMth [82, 101, 97, 100, 101, 114] [116, 97, 107, 101] (Γ 21) (dVar 0) (dCons (dC (.str [41])) dNil)))
    (sSeq (sRet (dVar 3))
    sNext))) sNext)
    (sSeq (sIf (dB (dBin vEq (dVar 1) (dC (.str [116, 114, 117, 101])))) (sSeq (sRet (dTup (dCons (dC (.str [116, 114, 117, 101])) dNil)))
    sNext) sNext)
    (sSeq (sIf (dB (dBin vEq (dVar 1) (dC (.str [116, 111, 112])))) (sSeq (sRet (dTup (dCons (dC (.str [116, 111, 112])) (dCons (dMth [82, 101, 97, 100, 101, 114] [115, 105, 110, 103, 108, 101] (Γ 27) (dVar 0) dNil) dNil))))
    sNext) sNext)
    (sSeq (sIf (dB (dBin vEq (dVar 1) (dC (.str [108, 97, 98, 101, 108])))) (sSeq (sAsg (dMth [82, 101, 97, 100, 101, 114] [110, 97, 109, 101] (Γ 22) (dVar 0) (dCons (dC (.str [108, 97, 98, 101, 108])) dNil)) (gName 4))
    (sSeq (sRet (dTup (dCons (dC (.str [108, 97, 98, 101, 108])) (dCons (dVar 4) (dCons (dMth [82, 101, 97, 100, 101, 114] [115, 105, 110, 103, 108, 101] (Γ 27) (dVar 0) dNil) dNil)))))
    sNext)) sNext)
    (sSeq (sIf (dB (dBin vEq (dVar 1) (dC (.str [99, 104, 105, 108, 100])))) (sSeq (sExpr (dMth [82, 101, 97, 100, 101, 114] [110, 101, 101, 100] (Γ 19) (dVar 0) (dCons (dOrV (dBin vEq (dMth [82, 101, 97, 100, 101, 114] [102, 105, 120, 101, 100] (Γ 20) (dVar 0) dNil) (dC (.str [48]))) (dBin vEq (dMth [82, 101, 97, 100, 101, 114] [102, 105, 120, 101, 100] (Γ 20) (dVar 0) dNil) (dC (.str [49])))) dNil)))
    (sSeq (sAsg (dIf (dB (dBin vEq (dMth [82, 101, 97, 100, 101, 114] [102, 105, 120, 101, 100] (Γ 20) (dVar 0) dNil) (dC (.str [48])))) (dC (.int 0)) (dC (.int 1))) (gName 5))
    (sSeq (sFldAug [82, 101, 97, 100, 101, 114] [97, 116] (dVar 0) (dC (.int 1)))
    (sSeq (sRet (dBin vAdd (dTup (dCons (dC (.str [99, 104, 105, 108, 100])) (dCons (dVar 5) dNil))) (dMth [82, 101, 97, 100, 101, 114] [112, 97, 105, 114] (Γ 26) (dVar 0) (dCons (dC (.str [101, 108, 101, 109, 101, 110, 116])) (dCons (dC (.str [101, 108, 101, 109, 101, 110, 116])) dNil)))))
    sNext)))) sNext)
    (sSeq (sIf (dB (dBin vEq (dVar 1) (dC (.str [105, 110])))) (sSeq (sRet (dBin vAdd (dTup (dCons (dC (.str [105, 110])) dNil)) (dMth [82, 101, 97, 100, 101, 114] [112, 97, 105, 114] (Γ 26) (dVar 0) (dCons (dC (.str [101, 108, 101, 109, 101, 110, 116])) (dCons (dC (.str [115, 101, 116])) dNil)))))
    sNext) sNext)
    (sSeq (sAsg (dIf (dB (dBin vEq (dVar 1) (dC (.str [105, 110, 115, 105, 100, 101])))) (dC (.str [115, 101, 116])) (dC (.str [101, 108, 101, 109, 101, 110, 116]))) (gName 2))
    (sSeq (sRet (dBin vAdd (dTup (dCons (dVar 1) dNil)) (dMth [82, 101, 97, 100, 101, 114] [112, 97, 105, 114] (Γ 26) (dVar 0) (dCons (dVar 2) (dCons (dVar 2) dNil)))))
    sNext)))))))))))
noncomputable def d_Reader_simple (Γ : Gam) : DF := fun args h => runDef 6 (b_Reader_simple Γ) args h
noncomputable def D (Γ : Gam) : Gam := fun j => match j with
  | 0 => d_is_set_name Γ
  | 1 => d_tokens Γ
  | 2 => d_read_formula Γ
  | 3 => d__law_tape Γ
  | 4 => d__law_take Γ
  | 5 => d__law_is_integer Γ
  | 6 => d__law_same_items Γ
  | 7 => d__law_same Γ
  | 8 => d__law_atom Γ
  | 9 => d__law_matrix Γ
  | 10 => d__law_put Γ
  | 11 => d__law_put_all Γ
  | 12 => d__law_put_formula Γ
  | 13 => d__law_read Γ
  | 14 => d__law_scraps Γ
  | 15 => d__law_tokens Γ
  | 16 => d__law_typed_right Γ
  | 17 => d_law Γ
  | 18 => d_Reader_init Γ
  | 19 => d_Reader_need Γ
  | 20 => d_Reader_fixed Γ
  | 21 => d_Reader_take Γ
  | 22 => d_Reader_name Γ
  | 23 => d_Reader_either Γ
  | 24 => d_Reader_both Γ
  | 25 => d_Reader_denied Γ
  | 26 => d_Reader_pair Γ
  | 27 => d_Reader_single Γ
  | 28 => d_Reader_simple Γ
  | _ => fun _ _ => .fail
def sig : List (Str × List Str) := [("is_set_name", ["name"]), ("tokens", ["text"]), ("read_formula", ["text"]), ("_law_tape", ["script"]), ("_law_take", ["tape", "many"]), ("_law_is_integer", ["actual"]), ("_law_same_items", ["actual", "expected"]), ("_law_same", ["actual", "expected"]), ("_law_atom", ["tape", "kind", "singles", "sets"]), ("_law_matrix", ["tape", "kind", "singles", "sets", "depth"]), ("_law_put", ["tape", "out", "string"]), ("_law_put_all", ["tape", "out", "strings"]), ("_law_put_formula", ["tape", "out", "formula", "least"]), ("_law_read", ["text"]), ("_law_scraps", ["tape"]), ("_law_tokens", ["text"]), ("_law_typed_right", ["tape"]), ("law", ["script"])]
def msig : List (Tx × Tx × List Str) := [([82, 101, 97, 100, 101, 114], [95, 95, 105, 110, 105, 116, 95, 95], ["self", "text"]), ([82, 101, 97, 100, 101, 114], [110, 101, 101, 100], ["self", "condition"]), ([82, 101, 97, 100, 101, 114], [102, 105, 120, 101, 100], ["self"]), ([82, 101, 97, 100, 101, 114], [116, 97, 107, 101], ["self", "expected"]), ([82, 101, 97, 100, 101, 114], [110, 97, 109, 101], ["self", "sort"]), ([82, 101, 97, 100, 101, 114], [101, 105, 116, 104, 101, 114], ["self"]), ([82, 101, 97, 100, 101, 114], [98, 111, 116, 104], ["self"]), ([82, 101, 97, 100, 101, 114], [100, 101, 110, 105, 101, 100], ["self"]), ([82, 101, 97, 100, 101, 114], [112, 97, 105, 114], ["self", "first", "second"]), ([82, 101, 97, 100, 101, 114], [115, 105, 110, 103, 108, 101], ["self"]), ([82, 101, 97, 100, 101, 114], [115, 105, 109, 112, 108, 101], ["self"])]
structure Fc (K : PySem.W.Frag) (mg : Str → Option Value) : Prop where
  f_abs : mg "abs" = none
  f_bool : mg "bool" = none
  f_dict : mg "dict" = none
  f_int : mg "int" = none
  f_isinstance : mg "isinstance" = none
  f_len : mg "len" = none
  f_list : mg "list" = none
  f_range : mg "range" = none
  f_str : mg "str" = none
  f_tuple : mg "tuple" = none
  c_DIGITS : ∃ t, mg "DIGITS" = some (.str (sOf [48, 49, 50, 51, 52, 53, 54, 55, 56, 57]) t)
  c_LETTERS : ∃ t, mg "LETTERS" = some (.str (sOf [97, 98, 99, 100, 101, 102, 103, 104, 105, 106, 107, 108, 109, 110, 111, 112, 113, 114, 115, 116, 117, 118, 119, 120, 121, 122, 65, 66, 67, 68, 69, 70, 71, 72, 73, 74, 75, 76, 77, 78, 79, 80, 81, 82, 83, 84, 85, 86, 87, 88, 89, 90]) t)
  c_SIGNS : ∃ t, mg "SIGNS" = some (.str (sOf [40, 41, 44, 58]) t)
  c_WORDS : mg "WORDS" = some (.ref (He.ga K "WORDS")) ∧ ∀ g H, VR K g H (.tup [.str [116, 114, 117, 101], .str [110, 111, 116], .str [97, 110, 100], .str [111, 114], .str [115, 111, 109, 101], .str [97, 108, 108], .str [105, 110], .str [105, 110, 115, 105, 100, 101], .str [98, 101, 108, 111, 119], .str [115, 97, 109, 101], .str [116, 111, 112], .str [99, 104, 105, 108, 100], .str [108, 97, 98, 101, 108]]) (.ref (He.ga K "WORDS"))
  oc_SyntaxProblem : OexC K (clsA K [83, 121, 110, 116, 97, 120, 80, 114, 111, 98, 108, 101, 109])
  oi_SyntaxProblem : Meth K (clsA K [83, 121, 110, 116, 97, 120, 80, 114, 111, 98, 108, 101, 109]) "__init__" (He.ma K (clsA K [83, 121, 110, 116, 97, 120, 80, 114, 111, 98, 108, 101, 109]) (sOf [95, 95, 105, 110, 105, 116, 95, 95]))
  on_SyntaxProblem : PySem.W.findIn K (.ref (clsA K [83, 121, 110, 116, 97, 120, 80, 114, 111, 98, 108, 101, 109])) (sOf [115, 116, 97, 114, 116]) = some none
  om_SyntaxProblem : PySem.W.exmOne K (.ref (clsA K [83, 121, 110, 116, 97, 120, 80, 114, 111, 98, 108, 101, 109])) (.ref (clsA K [83, 121, 110, 116, 97, 120, 80, 114, 111, 98, 108, 101, 109])) = some true
  ox_SyntaxProblem : XfC K (clsA K [83, 121, 110, 116, 97, 120, 80, 114, 111, 98, 108, 101, 109])
  og_SyntaxProblem : mg "SyntaxProblem" = some (.ref (clsA K [83, 121, 110, 116, 97, 120, 80, 114, 111, 98, 108, 101, 109]))
  k_Reader : Cls K (clsA K [82, 101, 97, 100, 101, 114])
  mk_Reader : Mk K (clsA K [82, 101, 97, 100, 101, 114]) (He.ma K (clsA K [82, 101, 97, 100, 101, 114]) (sOf [95, 95, 105, 110, 105, 116, 95, 95]))
  g_Reader : mg "Reader" = some (.ref (clsA K [82, 101, 97, 100, 101, 114]))
  n_Reader_at : NoAttr K (clsA K [82, 101, 97, 100, 101, 114]) (sOf [97, 116])
  n_Reader_found : NoAttr K (clsA K [82, 101, 97, 100, 101, 114]) (sOf [102, 111, 117, 110, 100])
abbrev FnP (K : PySem.W.Frag) (x : Str) (i : Nat) (fd : FuncData) : Prop := FunD K x x (defArgs (top i)) (defBody (top i)) (defScope (top i)) [] [] (He.ga K x) fd
section
variable {P : Program} {w : World} {K : PySem.W.Frag} {mg : Str → Option Value} {base : Heap} {k : Nat} {Γ : Gam}
theorem s_SyntaxProblem_init : FnScope ["self", "start"] ["self", "start"] (defScope (mth 2 0)) := ⟨rfl, rfl, rfl, by decide +kernel, rfl, by decide +kernel, by decide +kernel⟩
theorem io_SyntaxProblem_init {fd : FuncData} (fc : Fc K mg) (U : FunD K "__init__" "SyntaxProblem.__init__" (defArgs (mth 2 0)) (defBody (mth 2 0)) (defScope (mth 2 0)) [] [] (He.ma K (clsA K [83, 121, 110, 116, 97, 120, 80, 114, 111, 98, 108, 101, 109]) (sOf [95, 95, 105, 110, 105, 116, 95, 95])) fd) : FnOk P w K mg base CX0 1 (He.ma K (clsA K [83, 121, 110, 116, 97, 120, 80, 114, 111, 98, 108, 101, 109]) (sOf [95, 95, 105, 110, 105, 116, 95, 95])) fd ["self", "start"] (spI (clsA K [83, 121, 110, 116, 97, 120, 80, 114, 111, 98, 108, 101, 109]) "start") :=
  U.ok s_SyntaxProblem_init (fun vs H Q E h => by obtain ⟨a, v, rfl, _⟩ := h; rfl) (fun cdv A outer s H vs Q E hr h => ⟨_, pss_one (ps_ost (pe_var (i := 0) (by rfl) (.inl (by rfl)) (by decide +kernel) (by decide +kernel)) (pe_var (i := 1) (by rfl) (.inl (by rfl)) (by decide +kernel) (by decide +kernel))), init_pure fc.oc_SyntaxProblem fc.on_SyntaxProblem rfl h⟩)
theorem s_is_set_name : FnScope ["name"] ["name"] (defScope (top 4)) := ⟨rfl, rfl, rfl, by decide +kernel, rfl, by decide +kernel, by decide +kernel⟩
theorem w_is_set_name (F : AllK P w K mg base sig k Γ) (M : AllM P w K mg base msig 18 k Γ) (k1 : 1 ≤ k) (IO_SyntaxProblem : InitOk P w K mg base (clsA K [83, 121, 110, 116, 97, 120, 80, 114, 111, 98, 108, 101, 109]) (He.ma K (clsA K [83, 121, 110, 116, 97, 120, 80, 114, 111, 98, 108, 101, 109]) (sOf [95, 95, 105, 110, 105, 116, 95, 95])) ["self", "start"] "start") (fc : Fc K mg) {fa : Addr} {cdv : Value} {A : Around} {outer : List PySem.Env} {s : Shared} {H : Hp} {E : XK} (hr : Room (k + 1) (A.deeper (envOfC "is_set_name" (defScope (top 4)) s.heap.objs.size fa cdv)))
    (hp : PassesOwn (model P w) (A.deeper (envOfC "is_set_name" (defScope (top 4)) s.heap.objs.size fa cdv)) (envOfC "is_set_name" (defScope (top 4)) s.heap.objs.size fa cdv) (cxOf (L2.CX P w) P w K mg base ["name"] "is_set_name" (defScope (top 4)) fa cdv A outer s H E).xe)
    (tk : Takes (cxOf (L2.CX P w) P w K mg base ["name"] "is_set_name" (defScope (top 4)) fa cdv A outer s H E) (WD E)) :
    GSs (cxOf (L2.CX P w) P w K mg base ["name"] "is_set_name" (defScope (top 4)) fa cdv A outer s H E) (WD E) (defBody (top 4)) (b_is_set_name Γ) := by
  have nd : (["name"] : List Str).Nodup := s_is_set_name.nd
  have hu : (cxOf (L2.CX P w) P w K mg base ["name"] "is_set_name" (defScope (top 4)) fa cdv A outer s H E).A.units + 200 < cLine := by
    have := hr.un
    show (A.deeper (envOfC "is_set_name" (defScope (top 4)) s.heap.objs.size fa cdv)).units + 200 < cLine
    omega
  have hu1 : (cxOf (L2.CX P w) P w K mg base ["name"] "is_set_name" (defScope (top 4)) fa cdv A outer s H E).A.units + 1 < cLine := by omega
  exact (gs_cons (gs_ret (ge_chain og_leS og_leS (ge_str [65]) (ge_ix hu1 (ge_var 0) ge_int) (ge_str [90])))
    gs_nil)
theorem k_is_set_name {fd : FuncData} (F : AllK P w K mg base sig k Γ) (M : AllM P w K mg base msig 18 k Γ) (k1 : 1 ≤ k) (IO_SyntaxProblem : InitOk P w K mg base (clsA K [83, 121, 110, 116, 97, 120, 80, 114, 111, 98, 108, 101, 109]) (He.ma K (clsA K [83, 121, 110, 116, 97, 120, 80, 114, 111, 98, 108, 101, 109]) (sOf [95, 95, 105, 110, 105, 116, 95, 95])) ["self", "start"] "start") (fc : Fc K mg) (U : FnP K "is_set_name" 4 fd) : FnOk P w K mg base (L2.CX P w) (k + 2) (He.ga K "is_set_name") fd ["name"] (spG K (d_is_set_name Γ) 1) :=
  fn_G (k := k + 1) U s_is_set_name (fun args h _ => .inl rfl) fun cdv A outer s H E hr hp tk => w_is_set_name F M k1 IO_SyntaxProblem fc hr hp tk
theorem s_tokens : FnScope ["text", "result", "at", "char", "end"] ["text"] (defScope (top 10)) := ⟨rfl, rfl, rfl, by decide +kernel, rfl, by decide +kernel, by decide +kernel⟩
theorem w_tokens (F : AllK P w K mg base sig k Γ) (M : AllM P w K mg base msig 18 k Γ) (k1 : 1 ≤ k) (IO_SyntaxProblem : InitOk P w K mg base (clsA K [83, 121, 110, 116, 97, 120, 80, 114, 111, 98, 108, 101, 109]) (He.ma K (clsA K [83, 121, 110, 116, 97, 120, 80, 114, 111, 98, 108, 101, 109]) (sOf [95, 95, 105, 110, 105, 116, 95, 95])) ["self", "start"] "start") (fc : Fc K mg) {fa : Addr} {cdv : Value} {A : Around} {outer : List PySem.Env} {s : Shared} {H : Hp} {E : XK} (hr : Room (k + 1) (A.deeper (envOfC "tokens" (defScope (top 10)) s.heap.objs.size fa cdv)))
    (hp : PassesOwn (model P w) (A.deeper (envOfC "tokens" (defScope (top 10)) s.heap.objs.size fa cdv)) (envOfC "tokens" (defScope (top 10)) s.heap.objs.size fa cdv) (cxOf (L2.CX P w) P w K mg base ["text", "result", "at", "char", "end"] "tokens" (defScope (top 10)) fa cdv A outer s H E).xe)
    (tk : Takes (cxOf (L2.CX P w) P w K mg base ["text", "result", "at", "char", "end"] "tokens" (defScope (top 10)) fa cdv A outer s H E) (WD E)) :
    GSs (cxOf (L2.CX P w) P w K mg base ["text", "result", "at", "char", "end"] "tokens" (defScope (top 10)) fa cdv A outer s H E) (WD E) (defBody (top 10)) (b_tokens Γ) := by
  have nd : (["text", "result", "at", "char", "end"] : List Str).Nodup := s_tokens.nd
  have hu : (cxOf (L2.CX P w) P w K mg base ["text", "result", "at", "char", "end"] "tokens" (defScope (top 10)) fa cdv A outer s H E).A.units + 200 < cLine := by
    have := hr.un
    show (A.deeper (envOfC "tokens" (defScope (top 10)) s.heap.objs.size fa cdv)).units + 200 < cLine
    omega
  have hu1 : (cxOf (L2.CX P w) P w K mg base ["text", "result", "at", "char", "end"] "tokens" (defScope (top 10)) fa cdv A outer s H E).A.units + 1 < cLine := by omega
  exact (gs_cons (gs_set 1 (ge_lstM ga_nil) nd)
    (gs_cons (gs_set 2 ge_int nd)
    (gs_cons (gs_while hp (gt_cmp og_lt (ge_var 2) (ge_len (ge_var 0) fc.f_len)) (gs_cons (gs_set 3 (ge_ix hu1 (ge_var 0) (ge_var 2)) nd)
    (gs_cons (gs_set 4 (ge_bin og_add (ge_var 2) ge_int) nd)
    (gs_cons (gs_if (gt_cmp (og_in hu) (ge_var 3) (ge_tops [97, 98, 99, 100, 101, 102, 103, 104, 105, 106, 107, 108, 109, 110, 111, 112, 113, 114, 115, 116, 117, 118, 119, 120, 121, 122, 65, 66, 67, 68, 69, 70, 71, 72, 73, 74, 75, 76, 77, 78, 79, 80, 81, 82, 83, 84, 85, 86, 87, 88, 89, 90] fc.c_LETTERS)) (gs_cons (gs_while hp (GW.pt (gw_and (gt_cmp og_lt (ge_var 4) (ge_len (ge_var 0) fc.f_len)) (gw_and1 (GW.pt (gw_or (gt_cmp (og_in hu) (ge_ix hu1 (ge_var 0) (ge_var 4)) (ge_tops [97, 98, 99, 100, 101, 102, 103, 104, 105, 106, 107, 108, 109, 110, 111, 112, 113, 114, 115, 116, 117, 118, 119, 120, 121, 122, 65, 66, 67, 68, 69, 70, 71, 72, 73, 74, 75, 76, 77, 78, 79, 80, 81, 82, 83, 84, 85, 86, 87, 88, 89, 90] fc.c_LETTERS)) (gw_or1 (gt_cmp (og_in hu) (ge_ix hu1 (ge_var 0) (ge_var 4)) (ge_tops [48, 49, 50, 51, 52, 53, 54, 55, 56, 57] fc.c_DIGITS)))))))) (gs_cons (gs_aug 4 og_iadd ge_int nd)
    gs_nil))
    (gs_cons (gs_expr (ge_append (ge_var 1) (ge_tup (ga_cons (ge_if (gt_cmp (og_in hu) (ge_cut (ge_var 0) (go_some (ge_var 2)) (go_some (ge_var 4))) (ge_top (y := .ref (He.ga K "WORDS")) fc.c_WORDS.1 rfl fc.c_WORDS.2)) (ge_str [119, 111, 114, 100]) (ge_str [110, 97, 109, 101])) (ga_cons (ge_cut (ge_var 0) (go_some (ge_var 2)) (go_some (ge_var 4))) (ga_cons (ge_var 2) ga_nil))))))
    gs_nil)) (gs_cons (gs_if (GW.pt (gw_or (gt_cmp (og_in hu) (ge_var 3) (ge_tops [40, 41, 44, 58] fc.c_SIGNS)) (gw_or1 (gt_cmp (og_in hu) (ge_var 3) (ge_str [48, 49]))))) (gs_cons (gs_expr (ge_append (ge_var 1) (ge_tup (ga_cons (ge_str [115, 105, 103, 110]) (ga_cons (ge_var 3) (ga_cons (ge_var 2) ga_nil))))))
    gs_nil) (gs_cons (gs_if (GW.pt (gw_and (gt_cmp (og_ne hu) (ge_var 3) (ge_str [32])) (gw_and1 (gt_cmp (og_ne hu) (ge_var 3) (ge_str [10]))))) (gs_cons (gs_expr (ge_append (ge_var 1) (ge_tup (ga_cons (ge_str [119, 114, 111, 110, 103]) (ga_cons (ge_var 3) (ga_cons (ge_var 2) ga_nil))))))
    gs_nil) gs_nil)
    gs_nil))
    gs_nil))
    (gs_cons (gs_set 2 (ge_var 4) nd)
    gs_nil)))))
    (gs_cons (gs_ret (ge_var 1))
    gs_nil))))
theorem k_tokens {fd : FuncData} (F : AllK P w K mg base sig k Γ) (M : AllM P w K mg base msig 18 k Γ) (k1 : 1 ≤ k) (IO_SyntaxProblem : InitOk P w K mg base (clsA K [83, 121, 110, 116, 97, 120, 80, 114, 111, 98, 108, 101, 109]) (He.ma K (clsA K [83, 121, 110, 116, 97, 120, 80, 114, 111, 98, 108, 101, 109]) (sOf [95, 95, 105, 110, 105, 116, 95, 95])) ["self", "start"] "start") (fc : Fc K mg) (U : FnP K "tokens" 10 fd) : FnOk P w K mg base (L2.CX P w) (k + 2) (He.ga K "tokens") fd ["text"] (spG K (d_tokens Γ) 1) :=
  fn_G (k := k + 1) U s_tokens (fun args h _ => .inr rfl) fun cdv A outer s H E hr hp tk => w_tokens F M k1 IO_SyntaxProblem fc hr hp tk
theorem s_read_formula : FnScope ["text", "reader", "result"] ["text"] (defScope (top 12)) := ⟨rfl, rfl, rfl, by decide +kernel, rfl, by decide +kernel, by decide +kernel⟩
theorem w_read_formula (F : AllK P w K mg base sig k Γ) (M : AllM P w K mg base msig 18 k Γ) (k1 : 1 ≤ k) (IO_SyntaxProblem : InitOk P w K mg base (clsA K [83, 121, 110, 116, 97, 120, 80, 114, 111, 98, 108, 101, 109]) (He.ma K (clsA K [83, 121, 110, 116, 97, 120, 80, 114, 111, 98, 108, 101, 109]) (sOf [95, 95, 105, 110, 105, 116, 95, 95])) ["self", "start"] "start") (fc : Fc K mg) {fa : Addr} {cdv : Value} {A : Around} {outer : List PySem.Env} {s : Shared} {H : Hp} {E : XK} (hr : Room (k + 1) (A.deeper (envOfC "read_formula" (defScope (top 12)) s.heap.objs.size fa cdv)))
    (hp : PassesOwn (model P w) (A.deeper (envOfC "read_formula" (defScope (top 12)) s.heap.objs.size fa cdv)) (envOfC "read_formula" (defScope (top 12)) s.heap.objs.size fa cdv) (cxOf (L2.CX P w) P w K mg base ["text", "reader", "result"] "read_formula" (defScope (top 12)) fa cdv A outer s H E).xe)
    (tk : Takes (cxOf (L2.CX P w) P w K mg base ["text", "reader", "result"] "read_formula" (defScope (top 12)) fa cdv A outer s H E) (WD E)) :
    GSs (cxOf (L2.CX P w) P w K mg base ["text", "reader", "result"] "read_formula" (defScope (top 12)) fa cdv A outer s H E) (WD E) (defBody (top 12)) (b_read_formula Γ) := by
  have nd : (["text", "reader", "result"] : List Str).Nodup := s_read_formula.nd
  have hu : (cxOf (L2.CX P w) P w K mg base ["text", "reader", "result"] "read_formula" (defScope (top 12)) fa cdv A outer s H E).A.units + 200 < cLine := by
    have := hr.un
    show (A.deeper (envOfC "read_formula" (defScope (top 12)) s.heap.objs.size fa cdv)).units + 200 < cLine
    omega
  have hu1 : (cxOf (L2.CX P w) P w K mg base ["text", "reader", "result"] "read_formula" (defScope (top 12)) fa cdv A outer s H E).A.units + 1 < cLine := by omega
  exact (gs_cons (gs_set 1 (ge_make [82, 101, 97, 100, 101, 114] (M 0 _ _ _ rfl) fc.mk_Reader fc.g_Reader hr tk (gan_cons (ge_var 0) gan_nil)) nd)
    (gs_cons (gs_set 2 (ge_mth0 [82, 101, 97, 100, 101, 114] [101, 105, 116, 104, 101, 114] (ge_var 1) fc.k_Reader (M 5 _ _ _ rfl) (hr.mono (Nat.le_succ _)) tk) nd)
    (gs_cons (gs_expr (ge_mth [82, 101, 97, 100, 101, 114] [110, 101, 101, 100] (ge_var 1) fc.k_Reader (M 1 _ _ _ rfl) (hr.mono (Nat.le_succ _)) tk (gan_cons (ge_cmp og_ge (ge_fld [82, 101, 97, 100, 101, 114] [97, 116] (ge_var 1) fc.k_Reader fc.n_Reader_at) (ge_len (ge_fld [82, 101, 97, 100, 101, 114] [102, 111, 117, 110, 100] (ge_var 1) fc.k_Reader fc.n_Reader_found) fc.f_len)) gan_nil)))
    (gs_cons (gs_ret (ge_var 2))
    gs_nil))))
theorem k_read_formula {fd : FuncData} (F : AllK P w K mg base sig k Γ) (M : AllM P w K mg base msig 18 k Γ) (k1 : 1 ≤ k) (IO_SyntaxProblem : InitOk P w K mg base (clsA K [83, 121, 110, 116, 97, 120, 80, 114, 111, 98, 108, 101, 109]) (He.ma K (clsA K [83, 121, 110, 116, 97, 120, 80, 114, 111, 98, 108, 101, 109]) (sOf [95, 95, 105, 110, 105, 116, 95, 95])) ["self", "start"] "start") (fc : Fc K mg) (U : FnP K "read_formula" 12 fd) : FnOk P w K mg base (L2.CX P w) (k + 2) (He.ga K "read_formula") fd ["text"] (spG K (d_read_formula Γ) 1) :=
  fn_G (k := k + 1) U s_read_formula (fun args h _ => .inl rfl) fun cdv A outer s H E hr hp tk => w_read_formula F M k1 IO_SyntaxProblem fc hr hp tk
theorem s__law_tape : FnScope ["script", "cells", "seed", "cell"] ["script"] (defScope (top 14)) := ⟨rfl, rfl, rfl, by decide +kernel, rfl, by decide +kernel, by decide +kernel⟩
theorem w__law_tape (F : AllK P w K mg base sig k Γ) (M : AllM P w K mg base msig 18 k Γ) (k1 : 1 ≤ k) (IO_SyntaxProblem : InitOk P w K mg base (clsA K [83, 121, 110, 116, 97, 120, 80, 114, 111, 98, 108, 101, 109]) (He.ma K (clsA K [83, 121, 110, 116, 97, 120, 80, 114, 111, 98, 108, 101, 109]) (sOf [95, 95, 105, 110, 105, 116, 95, 95])) ["self", "start"] "start") (fc : Fc K mg) {fa : Addr} {cdv : Value} {A : Around} {outer : List PySem.Env} {s : Shared} {H : Hp} {E : XK} (hr : Room (k + 1) (A.deeper (envOfC "_law_tape" (defScope (top 14)) s.heap.objs.size fa cdv)))
    (hp : PassesOwn (model P w) (A.deeper (envOfC "_law_tape" (defScope (top 14)) s.heap.objs.size fa cdv)) (envOfC "_law_tape" (defScope (top 14)) s.heap.objs.size fa cdv) (cxOf (L2.CX P w) P w K mg base ["script", "cells", "seed", "cell"] "_law_tape" (defScope (top 14)) fa cdv A outer s H E).xe)
    (tk : Takes (cxOf (L2.CX P w) P w K mg base ["script", "cells", "seed", "cell"] "_law_tape" (defScope (top 14)) fa cdv A outer s H E) (WD E)) :
    GSs (cxOf (L2.CX P w) P w K mg base ["script", "cells", "seed", "cell"] "_law_tape" (defScope (top 14)) fa cdv A outer s H E) (WD E) (defBody (top 14)) (b__law_tape Γ) := by
  have nd : (["script", "cells", "seed", "cell"] : List Str).Nodup := s__law_tape.nd
  have hu : (cxOf (L2.CX P w) P w K mg base ["script", "cells", "seed", "cell"] "_law_tape" (defScope (top 14)) fa cdv A outer s H E).A.units + 200 < cLine := by
    have := hr.un
    show (A.deeper (envOfC "_law_tape" (defScope (top 14)) s.heap.objs.size fa cdv)).units + 200 < cLine
    omega
  have hu1 : (cxOf (L2.CX P w) P w K mg base ["script", "cells", "seed", "cell"] "_law_tape" (defScope (top 14)) fa cdv A outer s H E).A.units + 1 < cLine := by omega
  exact (gs_cons (gs_setLc fin_frozen 1 [("cell", 3)] rfl nd (gi_seq (ge_var 0)) (fun _ _ _ _ _ => (gc_name 3 nd)) (fun _ _ _ _ _ => gts_nil) (fun _ _ _ _ _ => (ge_b1 c1_abs (ge_t1 c1_int (ge_var 3) fc.f_int) fc.f_abs)))
    (gs_cons (gs_set 2 ge_int nd)
    (gs_cons (gs_for hp rfl (gi_seq (ge_var 1)) (gg_name 3 nd) (gs_cons (gs_set 2 (ge_bin og_mod (ge_t1 c1_int (ge_bin og_add (ge_bin og_mul (ge_var 2) ge_int) (ge_var 3)) fc.f_int) ge_int) nd)
    gs_nil))
    (gs_cons (gs_ret (ge_disp (gps_cons (ge_str [99, 101, 108, 108, 115]) (ge_var 1) (gps_cons (ge_str [97, 116]) ge_int (gps_cons (ge_str [108, 101, 102, 116]) ge_int (gps_cons (ge_str [115, 101, 101, 100]) (ge_var 2) (gps_cons (ge_str [115, 97, 108, 116]) ge_int gps_nil)))))))
    gs_nil))))
theorem k__law_tape {fd : FuncData} (F : AllK P w K mg base sig k Γ) (M : AllM P w K mg base msig 18 k Γ) (k1 : 1 ≤ k) (IO_SyntaxProblem : InitOk P w K mg base (clsA K [83, 121, 110, 116, 97, 120, 80, 114, 111, 98, 108, 101, 109]) (He.ma K (clsA K [83, 121, 110, 116, 97, 120, 80, 114, 111, 98, 108, 101, 109]) (sOf [95, 95, 105, 110, 105, 116, 95, 95])) ["self", "start"] "start") (fc : Fc K mg) (U : FnP K "_law_tape" 14 fd) : FnOk P w K mg base (L2.CX P w) (k + 2) (He.ga K "_law_tape") fd ["script"] (spG K (d__law_tape Γ) 1) :=
  fn_G (k := k + 1) U s__law_tape (fun args h _ => .inl rfl) fun cdv A outer s H E hr hp tk => w__law_tape F M k1 IO_SyntaxProblem fc hr hp tk
theorem s__law_take : FnScope ["tape", "many", "mixed", "drawn"] ["tape", "many"] (defScope (top 15)) := ⟨rfl, rfl, rfl, by decide +kernel, rfl, by decide +kernel, by decide +kernel⟩
theorem w__law_take (F : AllK P w K mg base sig k Γ) (M : AllM P w K mg base msig 18 k Γ) (k1 : 1 ≤ k) (IO_SyntaxProblem : InitOk P w K mg base (clsA K [83, 121, 110, 116, 97, 120, 80, 114, 111, 98, 108, 101, 109]) (He.ma K (clsA K [83, 121, 110, 116, 97, 120, 80, 114, 111, 98, 108, 101, 109]) (sOf [95, 95, 105, 110, 105, 116, 95, 95])) ["self", "start"] "start") (fc : Fc K mg) {fa : Addr} {cdv : Value} {A : Around} {outer : List PySem.Env} {s : Shared} {H : Hp} {E : XK} (hr : Room (k + 1) (A.deeper (envOfC "_law_take" (defScope (top 15)) s.heap.objs.size fa cdv)))
    (hp : PassesOwn (model P w) (A.deeper (envOfC "_law_take" (defScope (top 15)) s.heap.objs.size fa cdv)) (envOfC "_law_take" (defScope (top 15)) s.heap.objs.size fa cdv) (cxOf (L2.CX P w) P w K mg base ["tape", "many", "mixed", "drawn"] "_law_take" (defScope (top 15)) fa cdv A outer s H E).xe)
    (tk : Takes (cxOf (L2.CX P w) P w K mg base ["tape", "many", "mixed", "drawn"] "_law_take" (defScope (top 15)) fa cdv A outer s H E) (WD E)) :
    GSs (cxOf (L2.CX P w) P w K mg base ["tape", "many", "mixed", "drawn"] "_law_take" (defScope (top 15)) fa cdv A outer s H E) (WD E) (defBody (top 15)) (b__law_take Γ) := by
  have nd : (["tape", "many", "mixed", "drawn"] : List Str).Nodup := s__law_take.nd
  have hu : (cxOf (L2.CX P w) P w K mg base ["tape", "many", "mixed", "drawn"] "_law_take" (defScope (top 15)) fa cdv A outer s H E).A.units + 200 < cLine := by
    have := hr.un
    show (A.deeper (envOfC "_law_take" (defScope (top 15)) s.heap.objs.size fa cdv)).units + 200 < cLine
    omega
  have hu1 : (cxOf (L2.CX P w) P w K mg base ["tape", "many", "mixed", "drawn"] "_law_take" (defScope (top 15)) fa cdv A outer s H E).A.units + 1 < cLine := by omega
  exact (gs_cons (gs_if (GW.pt (gw_and (gt_cmp (og_eq hu) (ge_ix hu1 (ge_var 0) (ge_str [108, 101, 102, 116])) ge_int) (gw_and1 (gt_cmp og_lt (ge_ix hu1 (ge_var 0) (ge_str [97, 116])) (ge_len (ge_ix hu1 (ge_var 0) (ge_str [99, 101, 108, 108, 115])) fc.f_len))))) (gs_cons (gs_asg (ge_ix hu1 (ge_ix hu1 (ge_var 0) (ge_str [99, 101, 108, 108, 115])) (ge_ix hu1 (ge_var 0) (ge_str [97, 116]))) (gg_sub hu1 (ge_var 0) (ge_str [108, 101, 102, 116])))
    (gs_cons (gs_asg (ge_bin og_add (ge_ix hu1 (ge_var 0) (ge_str [97, 116])) ge_int) (gg_sub hu1 (ge_var 0) (ge_str [97, 116])))
    gs_nil)) gs_nil)
    (gs_cons (gs_if (gt_cmp og_gt (ge_ix hu1 (ge_var 0) (ge_str [108, 101, 102, 116])) ge_int) (gs_cons (gs_set 3 (ge_bin og_mod (ge_t1 c1_int (ge_ix hu1 (ge_var 0) (ge_str [108, 101, 102, 116])) fc.f_int) (ge_var 1)) nd)
    (gs_cons (gs_asg (ge_bin og_div (ge_ix hu1 (ge_var 0) (ge_str [108, 101, 102, 116])) (ge_var 1)) (gg_sub hu1 (ge_var 0) (ge_str [108, 101, 102, 116])))
    (gs_cons (gs_ret (ge_var 3))
    gs_nil))) gs_nil)
    (gs_cons (gs_asg (ge_bin og_add (ge_ix hu1 (ge_var 0) (ge_str [115, 97, 108, 116])) ge_int) (gg_sub hu1 (ge_var 0) (ge_str [115, 97, 108, 116])))
    (gs_cons (gs_set 2 (ge_bin og_mod (ge_t1 c1_int (ge_bin og_add (ge_bin og_mul (ge_ix hu1 (ge_var 0) (ge_str [115, 101, 101, 100])) ge_int) (ge_bin og_mul (ge_ix hu1 (ge_var 0) (ge_str [115, 97, 108, 116])) ge_int)) fc.f_int) ge_int) nd)
    (gs_cons (gs_set 2 (ge_bin og_mod (ge_t1 c1_int (ge_bin og_add (ge_bin og_add (ge_bin og_mul (ge_var 2) (ge_var 2)) (ge_bin og_mul (ge_ix hu1 (ge_var 0) (ge_str [115, 97, 108, 116])) ge_int)) ge_int) fc.f_int) ge_int) nd)
    (gs_cons (gs_ret (ge_bin og_mod (ge_t1 c1_int (ge_var 2) fc.f_int) (ge_var 1)))
    gs_nil))))))
theorem k__law_take {fd : FuncData} (F : AllK P w K mg base sig k Γ) (M : AllM P w K mg base msig 18 k Γ) (k1 : 1 ≤ k) (IO_SyntaxProblem : InitOk P w K mg base (clsA K [83, 121, 110, 116, 97, 120, 80, 114, 111, 98, 108, 101, 109]) (He.ma K (clsA K [83, 121, 110, 116, 97, 120, 80, 114, 111, 98, 108, 101, 109]) (sOf [95, 95, 105, 110, 105, 116, 95, 95])) ["self", "start"] "start") (fc : Fc K mg) (U : FnP K "_law_take" 15 fd) : FnOk P w K mg base (L2.CX P w) (k + 2) (He.ga K "_law_take") fd ["tape", "many"] (spG K (d__law_take Γ) 2) :=
  fn_G (k := k + 1) U s__law_take (fun args h _ => .inl rfl) fun cdv A outer s H E hr hp tk => w__law_take F M k1 IO_SyntaxProblem fc hr hp tk
theorem s__law_is_integer : FnScope ["actual"] ["actual"] (defScope (top 16)) := ⟨rfl, rfl, rfl, by decide +kernel, rfl, by decide +kernel, by decide +kernel⟩
theorem w__law_is_integer (F : AllK P w K mg base sig k Γ) (M : AllM P w K mg base msig 18 k Γ) (k1 : 1 ≤ k) (IO_SyntaxProblem : InitOk P w K mg base (clsA K [83, 121, 110, 116, 97, 120, 80, 114, 111, 98, 108, 101, 109]) (He.ma K (clsA K [83, 121, 110, 116, 97, 120, 80, 114, 111, 98, 108, 101, 109]) (sOf [95, 95, 105, 110, 105, 116, 95, 95])) ["self", "start"] "start") (fc : Fc K mg) {fa : Addr} {cdv : Value} {A : Around} {outer : List PySem.Env} {s : Shared} {H : Hp} {E : XK} (hr : Room (k + 1) (A.deeper (envOfC "_law_is_integer" (defScope (top 16)) s.heap.objs.size fa cdv)))
    (hp : PassesOwn (model P w) (A.deeper (envOfC "_law_is_integer" (defScope (top 16)) s.heap.objs.size fa cdv)) (envOfC "_law_is_integer" (defScope (top 16)) s.heap.objs.size fa cdv) (cxOf (L2.CX P w) P w K mg base ["actual"] "_law_is_integer" (defScope (top 16)) fa cdv A outer s H E).xe)
    (tk : Takes (cxOf (L2.CX P w) P w K mg base ["actual"] "_law_is_integer" (defScope (top 16)) fa cdv A outer s H E) (WD E)) :
    GSs (cxOf (L2.CX P w) P w K mg base ["actual"] "_law_is_integer" (defScope (top 16)) fa cdv A outer s H E) (WD E) (defBody (top 16)) (b__law_is_integer Γ) := by
  have nd : (["actual"] : List Str).Nodup := s__law_is_integer.nd
  have hu : (cxOf (L2.CX P w) P w K mg base ["actual"] "_law_is_integer" (defScope (top 16)) fa cdv A outer s H E).A.units + 200 < cLine := by
    have := hr.un
    show (A.deeper (envOfC "_law_is_integer" (defScope (top 16)) s.heap.objs.size fa cdv)).units + 200 < cLine
    omega
  have hu1 : (cxOf (L2.CX P w) P w K mg base ["actual"] "_law_is_integer" (defScope (top 16)) fa cdv A outer s H E).A.units + 1 < cLine := by omega
  exact (gs_cons (gs_ret (ge_and (ge_isi .int (ge_var 0) fc.f_isinstance fc.f_int) (ge_one (ge_not (ge_isi .bool (ge_var 0) fc.f_isinstance fc.f_bool)))))
    gs_nil)
theorem k__law_is_integer {fd : FuncData} (F : AllK P w K mg base sig k Γ) (M : AllM P w K mg base msig 18 k Γ) (k1 : 1 ≤ k) (IO_SyntaxProblem : InitOk P w K mg base (clsA K [83, 121, 110, 116, 97, 120, 80, 114, 111, 98, 108, 101, 109]) (He.ma K (clsA K [83, 121, 110, 116, 97, 120, 80, 114, 111, 98, 108, 101, 109]) (sOf [95, 95, 105, 110, 105, 116, 95, 95])) ["self", "start"] "start") (fc : Fc K mg) (U : FnP K "_law_is_integer" 16 fd) : FnOk P w K mg base (L2.CX P w) (k + 2) (He.ga K "_law_is_integer") fd ["actual"] (spG K (d__law_is_integer Γ) 1) :=
  fn_G (k := k + 1) U s__law_is_integer (fun args h _ => .inl rfl) fun cdv A outer s H E hr hp tk => w__law_is_integer F M k1 IO_SyntaxProblem fc hr hp tk
theorem s__law_same_items : FnScope ["actual", "expected", "k"] ["actual", "expected"] (defScope (top 17)) := ⟨rfl, rfl, rfl, by decide +kernel, rfl, by decide +kernel, by decide +kernel⟩
theorem w__law_same_items (F : AllK P w K mg base sig k Γ) (M : AllM P w K mg base msig 18 k Γ) (k1 : 1 ≤ k) (IO_SyntaxProblem : InitOk P w K mg base (clsA K [83, 121, 110, 116, 97, 120, 80, 114, 111, 98, 108, 101, 109]) (He.ma K (clsA K [83, 121, 110, 116, 97, 120, 80, 114, 111, 98, 108, 101, 109]) (sOf [95, 95, 105, 110, 105, 116, 95, 95])) ["self", "start"] "start") (fc : Fc K mg) {fa : Addr} {cdv : Value} {A : Around} {outer : List PySem.Env} {s : Shared} {H : Hp} {E : XK} (hr : Room (k + 1) (A.deeper (envOfC "_law_same_items" (defScope (top 17)) s.heap.objs.size fa cdv)))
    (hp : PassesOwn (model P w) (A.deeper (envOfC "_law_same_items" (defScope (top 17)) s.heap.objs.size fa cdv)) (envOfC "_law_same_items" (defScope (top 17)) s.heap.objs.size fa cdv) (cxOf (L2.CX P w) P w K mg base ["actual", "expected", "k"] "_law_same_items" (defScope (top 17)) fa cdv A outer s H E).xe)
    (tk : Takes (cxOf (L2.CX P w) P w K mg base ["actual", "expected", "k"] "_law_same_items" (defScope (top 17)) fa cdv A outer s H E) (WD E)) :
    GSs (cxOf (L2.CX P w) P w K mg base ["actual", "expected", "k"] "_law_same_items" (defScope (top 17)) fa cdv A outer s H E) (WD E) (defBody (top 17)) (b__law_same_items Γ) := by
  have nd : (["actual", "expected", "k"] : List Str).Nodup := s__law_same_items.nd
  have hu : (cxOf (L2.CX P w) P w K mg base ["actual", "expected", "k"] "_law_same_items" (defScope (top 17)) fa cdv A outer s H E).A.units + 200 < cLine := by
    have := hr.un
    show (A.deeper (envOfC "_law_same_items" (defScope (top 17)) s.heap.objs.size fa cdv)).units + 200 < cLine
    omega
  have hu1 : (cxOf (L2.CX P w) P w K mg base ["actual", "expected", "k"] "_law_same_items" (defScope (top 17)) fa cdv A outer s H E).A.units + 1 < cLine := by omega
  exact (gs_cons (gs_if (gt_cmp (og_ne hu) (ge_len (ge_var 0) fc.f_len) (ge_len (ge_var 1) fc.f_len)) (gs_cons (gs_ret ge_bl)
    gs_nil) gs_nil)
    (gs_cons (gs_for hp rfl (gi_range1 (ge_len (ge_var 1) fc.f_len) fc.f_range) (gg_name 2 nd) (gs_cons (gs_if (gt_not (gt_tru (ge_fn (F 7 _ _ rfl) (hr.mono (Nat.le_succ _)) tk (gan_cons (ge_ix hu1 (ge_var 0) (ge_var 2)) (gan_cons (ge_ix hu1 (ge_var 1) (ge_var 2)) gan_nil))))) (gs_cons (gs_ret ge_bl)
    gs_nil) gs_nil)
    gs_nil))
    (gs_cons (gs_ret ge_bl)
    gs_nil)))
theorem k__law_same_items {fd : FuncData} (F : AllK P w K mg base sig k Γ) (M : AllM P w K mg base msig 18 k Γ) (k1 : 1 ≤ k) (IO_SyntaxProblem : InitOk P w K mg base (clsA K [83, 121, 110, 116, 97, 120, 80, 114, 111, 98, 108, 101, 109]) (He.ma K (clsA K [83, 121, 110, 116, 97, 120, 80, 114, 111, 98, 108, 101, 109]) (sOf [95, 95, 105, 110, 105, 116, 95, 95])) ["self", "start"] "start") (fc : Fc K mg) (U : FnP K "_law_same_items" 17 fd) : FnOk P w K mg base (L2.CX P w) (k + 2) (He.ga K "_law_same_items") fd ["actual", "expected"] (spG K (d__law_same_items Γ) 2) :=
  fn_G (k := k + 1) U s__law_same_items (fun args h _ => .inl rfl) fun cdv A outer s H E hr hp tk => w__law_same_items F M k1 IO_SyntaxProblem fc hr hp tk
theorem s__law_same : FnScope ["actual", "expected", "key"] ["actual", "expected"] (defScope (top 18)) := ⟨rfl, rfl, rfl, by decide +kernel, rfl, by decide +kernel, by decide +kernel⟩
theorem w__law_same (F : AllK P w K mg base sig k Γ) (M : AllM P w K mg base msig 18 k Γ) (k1 : 1 ≤ k) (IO_SyntaxProblem : InitOk P w K mg base (clsA K [83, 121, 110, 116, 97, 120, 80, 114, 111, 98, 108, 101, 109]) (He.ma K (clsA K [83, 121, 110, 116, 97, 120, 80, 114, 111, 98, 108, 101, 109]) (sOf [95, 95, 105, 110, 105, 116, 95, 95])) ["self", "start"] "start") (fc : Fc K mg) {fa : Addr} {cdv : Value} {A : Around} {outer : List PySem.Env} {s : Shared} {H : Hp} {E : XK} (hr : Room (k + 1) (A.deeper (envOfC "_law_same" (defScope (top 18)) s.heap.objs.size fa cdv)))
    (hp : PassesOwn (model P w) (A.deeper (envOfC "_law_same" (defScope (top 18)) s.heap.objs.size fa cdv)) (envOfC "_law_same" (defScope (top 18)) s.heap.objs.size fa cdv) (cxOf (L2.CX P w) P w K mg base ["actual", "expected", "key"] "_law_same" (defScope (top 18)) fa cdv A outer s H E).xe)
    (tk : Takes (cxOf (L2.CX P w) P w K mg base ["actual", "expected", "key"] "_law_same" (defScope (top 18)) fa cdv A outer s H E) (WD E)) :
    GSs (cxOf (L2.CX P w) P w K mg base ["actual", "expected", "key"] "_law_same" (defScope (top 18)) fa cdv A outer s H E) (WD E) (defBody (top 18)) (b__law_same Γ) := by
  have nd : (["actual", "expected", "key"] : List Str).Nodup := s__law_same.nd
  have hu : (cxOf (L2.CX P w) P w K mg base ["actual", "expected", "key"] "_law_same" (defScope (top 18)) fa cdv A outer s H E).A.units + 200 < cLine := by
    have := hr.un
    show (A.deeper (envOfC "_law_same" (defScope (top 18)) s.heap.objs.size fa cdv)).units + 200 < cLine
    omega
  have hu1 : (cxOf (L2.CX P w) P w K mg base ["actual", "expected", "key"] "_law_same" (defScope (top 18)) fa cdv A outer s H E).A.units + 1 < cLine := by omega
  exact (gs_cons (gs_if (gt_cmp og_isN (ge_var 1) ge_non) (gs_cons (gs_ret (ge_cmp og_isN (ge_var 0) ge_non))
    gs_nil) gs_nil)
    (gs_cons (gs_if (gt_tru (ge_isi .bool (ge_var 1) fc.f_isinstance fc.f_bool)) (gs_cons (gs_ret (ge_and (ge_isi .bool (ge_var 0) fc.f_isinstance fc.f_bool) (ge_one (ge_cmp (og_eq hu) (ge_var 0) (ge_var 1)))))
    gs_nil) gs_nil)
    (gs_cons (gs_if (gt_tru (ge_isi .int (ge_var 1) fc.f_isinstance fc.f_int)) (gs_cons (gs_ret (ge_and (ge_fn (F 5 _ _ rfl) (hr.mono (Nat.le_succ _)) tk (gan_cons (ge_var 0) gan_nil)) (ge_one (ge_cmp (og_eq hu) (ge_var 0) (ge_var 1)))))
    gs_nil) gs_nil)
    (gs_cons (gs_if (gt_tru (ge_isi .str (ge_var 1) fc.f_isinstance fc.f_str)) (gs_cons (gs_ret (ge_and (ge_isi .str (ge_var 0) fc.f_isinstance fc.f_str) (ge_one (ge_cmp (og_eq hu) (ge_var 0) (ge_var 1)))))
    gs_nil) gs_nil)
    (gs_cons (gs_if (gt_tru (ge_isi .tuple (ge_var 1) fc.f_isinstance fc.f_tuple)) (gs_cons (gs_ret (ge_and (ge_isi .tuple (ge_var 0) fc.f_isinstance fc.f_tuple) (ge_one (ge_fn (F 6 _ _ rfl) (hr.mono (Nat.le_succ _)) tk (gan_cons (ge_var 0) (gan_cons (ge_var 1) gan_nil))))))
    gs_nil) gs_nil)
    (gs_cons (gs_if (gt_tru (ge_isi .list (ge_var 1) fc.f_isinstance fc.f_list)) (gs_cons (gs_ret (ge_and (ge_isi .list (ge_var 0) fc.f_isinstance fc.f_list) (ge_one (ge_fn (F 6 _ _ rfl) (hr.mono (Nat.le_succ _)) tk (gan_cons (ge_var 0) (gan_cons (ge_var 1) gan_nil))))))
    gs_nil) gs_nil)
    (gs_cons (gs_if (GW.pt (gw_or (gt_not (gt_tru (ge_isi .dict (ge_var 0) fc.f_isinstance fc.f_dict))) (gw_or1 (gt_cmp (og_ne hu) (ge_len (ge_var 0) fc.f_len) (ge_len (ge_var 1) fc.f_len))))) (gs_cons (gs_ret ge_bl)
    gs_nil) gs_nil)
    (gs_cons (gs_for hp rfl (gi_seq (ge_var 1)) (gg_name 2 nd) (gs_cons (gs_if (GW.pt (gw_or (gt_cmp (og_notIn hu) (ge_var 2) (ge_var 0)) (gw_or1 (gt_not (gt_tru (ge_fn (F 7 _ _ rfl) (hr.mono (Nat.le_succ _)) tk (gan_cons (ge_ix hu1 (ge_var 0) (ge_var 2)) (gan_cons (ge_ix hu1 (ge_var 1) (ge_var 2)) gan_nil)))))))) (gs_cons (gs_ret ge_bl)
    gs_nil) gs_nil)
    gs_nil))
    (gs_cons (gs_for hp rfl (gi_seq (ge_var 0)) (gg_name 2 nd) (gs_cons (gs_if (gt_tru (ge_isi .bool (ge_var 2) fc.f_isinstance fc.f_bool)) (gs_cons (gs_ret ge_bl)
    gs_nil) gs_nil)
    gs_nil))
    (gs_cons (gs_ret ge_bl)
    gs_nil))))))))))
theorem k__law_same {fd : FuncData} (F : AllK P w K mg base sig k Γ) (M : AllM P w K mg base msig 18 k Γ) (k1 : 1 ≤ k) (IO_SyntaxProblem : InitOk P w K mg base (clsA K [83, 121, 110, 116, 97, 120, 80, 114, 111, 98, 108, 101, 109]) (He.ma K (clsA K [83, 121, 110, 116, 97, 120, 80, 114, 111, 98, 108, 101, 109]) (sOf [95, 95, 105, 110, 105, 116, 95, 95])) ["self", "start"] "start") (fc : Fc K mg) (U : FnP K "_law_same" 18 fd) : FnOk P w K mg base (L2.CX P w) (k + 2) (He.ga K "_law_same") fd ["actual", "expected"] (spG K (d__law_same Γ) 2) :=
  fn_G (k := k + 1) U s__law_same (fun args h _ => .inl rfl) fun cdv A outer s H E hr hp tk => w__law_same F M k1 IO_SyntaxProblem fc hr hp tk
theorem s__law_atom : FnScope ["tape", "kind", "singles", "sets", "choice", "x", "y"] ["tape", "kind", "singles", "sets"] (defScope (top 19)) := ⟨rfl, rfl, rfl, by decide +kernel, rfl, by decide +kernel, by decide +kernel⟩
theorem w__law_atom (F : AllK P w K mg base sig k Γ) (M : AllM P w K mg base msig 18 k Γ) (k1 : 1 ≤ k) (IO_SyntaxProblem : InitOk P w K mg base (clsA K [83, 121, 110, 116, 97, 120, 80, 114, 111, 98, 108, 101, 109]) (He.ma K (clsA K [83, 121, 110, 116, 97, 120, 80, 114, 111, 98, 108, 101, 109]) (sOf [95, 95, 105, 110, 105, 116, 95, 95])) ["self", "start"] "start") (fc : Fc K mg) {fa : Addr} {cdv : Value} {A : Around} {outer : List PySem.Env} {s : Shared} {H : Hp} {E : XK} (hr : Room (k + 1) (A.deeper (envOfC "_law_atom" (defScope (top 19)) s.heap.objs.size fa cdv)))
    (hp : PassesOwn (model P w) (A.deeper (envOfC "_law_atom" (defScope (top 19)) s.heap.objs.size fa cdv)) (envOfC "_law_atom" (defScope (top 19)) s.heap.objs.size fa cdv) (cxOf (L2.CX P w) P w K mg base ["tape", "kind", "singles", "sets", "choice", "x", "y"] "_law_atom" (defScope (top 19)) fa cdv A outer s H E).xe)
    (tk : Takes (cxOf (L2.CX P w) P w K mg base ["tape", "kind", "singles", "sets", "choice", "x", "y"] "_law_atom" (defScope (top 19)) fa cdv A outer s H E) (WD E)) :
    GSs (cxOf (L2.CX P w) P w K mg base ["tape", "kind", "singles", "sets", "choice", "x", "y"] "_law_atom" (defScope (top 19)) fa cdv A outer s H E) (WD E) (defBody (top 19)) (b__law_atom Γ) := by
  have nd : (["tape", "kind", "singles", "sets", "choice", "x", "y"] : List Str).Nodup := s__law_atom.nd
  have hu : (cxOf (L2.CX P w) P w K mg base ["tape", "kind", "singles", "sets", "choice", "x", "y"] "_law_atom" (defScope (top 19)) fa cdv A outer s H E).A.units + 200 < cLine := by
    have := hr.un
    show (A.deeper (envOfC "_law_atom" (defScope (top 19)) s.heap.objs.size fa cdv)).units + 200 < cLine
    omega
  have hu1 : (cxOf (L2.CX P w) P w K mg base ["tape", "kind", "singles", "sets", "choice", "x", "y"] "_law_atom" (defScope (top 19)) fa cdv A outer s H E).A.units + 1 < cLine := by omega
  exact (gs_cons (gs_set 4 (ge_fn (F 4 _ _ rfl) (hr.mono (Nat.le_succ _)) tk (gan_cons (ge_var 0) (gan_cons ge_int gan_nil))) nd)
    (gs_cons (gs_if (GW.pt (gw_and (gt_cmp (og_ne hu) (ge_var 3) (ge_lst ga_nil)) (gw_and1 (GW.pt (gw_or (gt_cmp og_lt (ge_var 4) ge_int) (gw_or1 (gt_cmp (og_eq hu) (ge_var 2) (ge_lst ga_nil)))))))) (gs_cons (gs_if (GW.pt (gw_or (gt_cmp (og_eq hu) (ge_var 2) (ge_lst ga_nil)) (gw_or1 (gt_cmp (og_eq hu) (ge_var 4) ge_int)))) (gs_cons (gs_ret (ge_tup (ga_cons (ge_str [105, 110, 115, 105, 100, 101]) (ga_cons (ge_ix hu1 (ge_var 3) (ge_fn (F 4 _ _ rfl) (hr.mono (Nat.le_succ _)) tk (gan_cons (ge_var 0) (gan_cons (ge_len (ge_var 3) fc.f_len) gan_nil)))) (ga_cons (ge_ix hu1 (ge_var 3) (ge_fn (F 4 _ _ rfl) (hr.mono (Nat.le_succ _)) tk (gan_cons (ge_var 0) (gan_cons (ge_len (ge_var 3) fc.f_len) gan_nil)))) ga_nil)))))
    gs_nil) gs_nil)
    (gs_cons (gs_ret (ge_tup (ga_cons (ge_str [105, 110]) (ga_cons (ge_ix hu1 (ge_var 2) (ge_fn (F 4 _ _ rfl) (hr.mono (Nat.le_succ _)) tk (gan_cons (ge_var 0) (gan_cons (ge_len (ge_var 2) fc.f_len) gan_nil)))) (ga_cons (ge_ix hu1 (ge_var 3) (ge_fn (F 4 _ _ rfl) (hr.mono (Nat.le_succ _)) tk (gan_cons (ge_var 0) (gan_cons (ge_len (ge_var 3) fc.f_len) gan_nil)))) ga_nil)))))
    gs_nil)) gs_nil)
    (gs_cons (gs_if (gt_cmp (og_eq hu) (ge_var 2) (ge_lst ga_nil)) (gs_cons (gs_ret (ge_tup (ga_cons (ge_str [116, 114, 117, 101]) ga_nil)))
    gs_nil) gs_nil)
    (gs_cons (gs_set 5 (ge_ix hu1 (ge_var 2) (ge_fn (F 4 _ _ rfl) (hr.mono (Nat.le_succ _)) tk (gan_cons (ge_var 0) (gan_cons (ge_len (ge_var 2) fc.f_len) gan_nil)))) nd)
    (gs_cons (gs_set 6 (ge_ix hu1 (ge_var 2) (ge_fn (F 4 _ _ rfl) (hr.mono (Nat.le_succ _)) tk (gan_cons (ge_var 0) (gan_cons (ge_len (ge_var 2) fc.f_len) gan_nil)))) nd)
    (gs_cons (gs_if (gt_cmp og_lt (ge_var 4) ge_int) (gs_cons (gs_ret (ge_tup (ga_cons (ge_str [108, 97, 98, 101, 108]) (ga_cons (ge_ix hu1 (ge_ix hu1 (ge_var 1) ge_int) (ge_fn (F 4 _ _ rfl) (hr.mono (Nat.le_succ _)) tk (gan_cons (ge_var 0) (gan_cons (ge_len (ge_ix hu1 (ge_var 1) ge_int) fc.f_len) gan_nil)))) (ga_cons (ge_var 5) ga_nil)))))
    gs_nil) gs_nil)
    (gs_cons (gs_if (gt_cmp (og_eq hu) (ge_var 4) ge_int) (gs_cons (gs_ret (ge_tup (ga_cons (ge_str [116, 111, 112]) (ga_cons (ge_var 5) ga_nil))))
    gs_nil) gs_nil)
    (gs_cons (gs_if (gt_cmp (og_eq hu) (ge_var 4) ge_int) (gs_cons (gs_ret (ge_tup (ga_cons (ge_str [115, 97, 109, 101]) (ga_cons (ge_var 5) (ga_cons (ge_var 6) ga_nil)))))
    gs_nil) gs_nil)
    (gs_cons (gs_ret (ge_if (gt_cmp og_lt (ge_var 4) ge_int) (ge_tup (ga_cons (ge_str [99, 104, 105, 108, 100]) (ga_cons (ge_fn (F 4 _ _ rfl) (hr.mono (Nat.le_succ _)) tk (gan_cons (ge_var 0) (gan_cons (ge_ix hu1 (ge_var 1) ge_int) gan_nil))) (ga_cons (ge_var 5) (ga_cons (ge_var 6) ga_nil))))) (ge_tup (ga_cons (ge_str [98, 101, 108, 111, 119]) (ga_cons (ge_var 5) (ga_cons (ge_var 6) ga_nil))))))
    gs_nil)))))))))
theorem k__law_atom {fd : FuncData} (F : AllK P w K mg base sig k Γ) (M : AllM P w K mg base msig 18 k Γ) (k1 : 1 ≤ k) (IO_SyntaxProblem : InitOk P w K mg base (clsA K [83, 121, 110, 116, 97, 120, 80, 114, 111, 98, 108, 101, 109]) (He.ma K (clsA K [83, 121, 110, 116, 97, 120, 80, 114, 111, 98, 108, 101, 109]) (sOf [95, 95, 105, 110, 105, 116, 95, 95])) ["self", "start"] "start") (fc : Fc K mg) (U : FnP K "_law_atom" 19 fd) : FnOk P w K mg base (L2.CX P w) (k + 2) (He.ga K "_law_atom") fd ["tape", "kind", "singles", "sets"] (spG K (d__law_atom Γ) 4) :=
  fn_G (k := k + 1) U s__law_atom (fun args h _ => .inl rfl) fun cdv A outer s H E hr hp tk => w__law_atom F M k1 IO_SyntaxProblem fc hr hp tk
theorem s__law_matrix : FnScope ["tape", "kind", "singles", "sets", "depth", "choice", "word", "name", "left"] ["tape", "kind", "singles", "sets", "depth"] (defScope (top 20)) := ⟨rfl, rfl, rfl, by decide +kernel, rfl, by decide +kernel, by decide +kernel⟩
theorem w__law_matrix (F : AllK P w K mg base sig k Γ) (M : AllM P w K mg base msig 18 k Γ) (k1 : 1 ≤ k) (IO_SyntaxProblem : InitOk P w K mg base (clsA K [83, 121, 110, 116, 97, 120, 80, 114, 111, 98, 108, 101, 109]) (He.ma K (clsA K [83, 121, 110, 116, 97, 120, 80, 114, 111, 98, 108, 101, 109]) (sOf [95, 95, 105, 110, 105, 116, 95, 95])) ["self", "start"] "start") (fc : Fc K mg) {fa : Addr} {cdv : Value} {A : Around} {outer : List PySem.Env} {s : Shared} {H : Hp} {E : XK} (hr : Room (k + 1) (A.deeper (envOfC "_law_matrix" (defScope (top 20)) s.heap.objs.size fa cdv)))
    (hp : PassesOwn (model P w) (A.deeper (envOfC "_law_matrix" (defScope (top 20)) s.heap.objs.size fa cdv)) (envOfC "_law_matrix" (defScope (top 20)) s.heap.objs.size fa cdv) (cxOf (L2.CX P w) P w K mg base ["tape", "kind", "singles", "sets", "depth", "choice", "word", "name", "left"] "_law_matrix" (defScope (top 20)) fa cdv A outer s H E).xe)
    (tk : Takes (cxOf (L2.CX P w) P w K mg base ["tape", "kind", "singles", "sets", "depth", "choice", "word", "name", "left"] "_law_matrix" (defScope (top 20)) fa cdv A outer s H E) (WD E)) :
    GSs (cxOf (L2.CX P w) P w K mg base ["tape", "kind", "singles", "sets", "depth", "choice", "word", "name", "left"] "_law_matrix" (defScope (top 20)) fa cdv A outer s H E) (WD E) (defBody (top 20)) (b__law_matrix Γ) := by
  have nd : (["tape", "kind", "singles", "sets", "depth", "choice", "word", "name", "left"] : List Str).Nodup := s__law_matrix.nd
  have hu : (cxOf (L2.CX P w) P w K mg base ["tape", "kind", "singles", "sets", "depth", "choice", "word", "name", "left"] "_law_matrix" (defScope (top 20)) fa cdv A outer s H E).A.units + 200 < cLine := by
    have := hr.un
    show (A.deeper (envOfC "_law_matrix" (defScope (top 20)) s.heap.objs.size fa cdv)).units + 200 < cLine
    omega
  have hu1 : (cxOf (L2.CX P w) P w K mg base ["tape", "kind", "singles", "sets", "depth", "choice", "word", "name", "left"] "_law_matrix" (defScope (top 20)) fa cdv A outer s H E).A.units + 1 < cLine := by omega
  exact (gs_cons (gs_set 5 (ge_if (gt_cmp og_gt (ge_var 4) ge_int) (ge_fn (F 4 _ _ rfl) (hr.mono (Nat.le_succ _)) tk (gan_cons (ge_var 0) (gan_cons ge_int gan_nil))) ge_int) nd)
    (gs_cons (gs_if (gt_cmp og_lt (ge_var 5) ge_int) (gs_cons (gs_ret (ge_fn (F 8 _ _ rfl) (hr.mono (Nat.le_succ _)) tk (gan_cons (ge_var 0) (gan_cons (ge_var 1) (gan_cons (ge_var 2) (gan_cons (ge_var 3) gan_nil))))))
    gs_nil) gs_nil)
    (gs_cons (gs_if (gt_cmp (og_eq hu) (ge_var 5) ge_int) (gs_cons (gs_ret (ge_tup (ga_cons (ge_str [110, 111, 116]) (ga_cons (ge_fn (F 9 _ _ rfl) (hr.mono (Nat.le_succ _)) tk (gan_cons (ge_var 0) (gan_cons (ge_var 1) (gan_cons (ge_var 2) (gan_cons (ge_var 3) (gan_cons (ge_bin og_sub (ge_var 4) ge_int) gan_nil)))))) ga_nil))))
    gs_nil) gs_nil)
    (gs_cons (gs_if (gt_cmp og_lt (ge_var 5) ge_int) (gs_cons (gs_set 6 (ge_ix hu1 (ge_lst (ga_cons (ge_str [97, 110, 100]) (ga_cons (ge_str [111, 114]) ga_nil))) (ge_fn (F 4 _ _ rfl) (hr.mono (Nat.le_succ _)) tk (gan_cons (ge_var 0) (gan_cons ge_int gan_nil)))) nd)
    (gs_cons (gs_set 8 (ge_fn (F 9 _ _ rfl) (hr.mono (Nat.le_succ _)) tk (gan_cons (ge_var 0) (gan_cons (ge_var 1) (gan_cons (ge_var 2) (gan_cons (ge_var 3) (gan_cons (ge_bin og_sub (ge_var 4) ge_int) gan_nil)))))) nd)
    (gs_cons (gs_ret (ge_tup (ga_cons (ge_var 6) (ga_cons (ge_var 8) (ga_cons (ge_fn (F 9 _ _ rfl) (hr.mono (Nat.le_succ _)) tk (gan_cons (ge_var 0) (gan_cons (ge_var 1) (gan_cons (ge_var 2) (gan_cons (ge_var 3) (gan_cons (ge_bin og_sub (ge_var 4) ge_int) gan_nil)))))) ga_nil)))))
    gs_nil))) gs_nil)
    (gs_cons (gs_set 6 (ge_ix hu1 (ge_lst (ga_cons (ge_str [115, 111, 109, 101]) (ga_cons (ge_str [97, 108, 108]) ga_nil))) (ge_fn (F 4 _ _ rfl) (hr.mono (Nat.le_succ _)) tk (gan_cons (ge_var 0) (gan_cons ge_int gan_nil)))) nd)
    (gs_cons (gs_set 7 (ge_ix hu1 (ge_lst (ga_cons (ge_str [120]) (ga_cons (ge_str [121]) (ga_cons (ge_str [122]) ga_nil)))) (ge_fn (F 4 _ _ rfl) (hr.mono (Nat.le_succ _)) tk (gan_cons (ge_var 0) (gan_cons ge_int gan_nil)))) nd)
    (gs_cons (gs_ret (ge_tup (ga_cons (ge_var 6) (ga_cons (ge_var 7) (ga_cons (ge_fn (F 9 _ _ rfl) (hr.mono (Nat.le_succ _)) tk (gan_cons (ge_var 0) (gan_cons (ge_var 1) (gan_cons (ge_bin og_add (ge_var 2) (ge_lst (ga_cons (ge_var 7) ga_nil))) (gan_cons (ge_var 3) (gan_cons (ge_bin og_sub (ge_var 4) ge_int) gan_nil)))))) ga_nil)))))
    gs_nil)))))))
theorem k__law_matrix {fd : FuncData} (F : AllK P w K mg base sig k Γ) (M : AllM P w K mg base msig 18 k Γ) (k1 : 1 ≤ k) (IO_SyntaxProblem : InitOk P w K mg base (clsA K [83, 121, 110, 116, 97, 120, 80, 114, 111, 98, 108, 101, 109]) (He.ma K (clsA K [83, 121, 110, 116, 97, 120, 80, 114, 111, 98, 108, 101, 109]) (sOf [95, 95, 105, 110, 105, 116, 95, 95])) ["self", "start"] "start") (fc : Fc K mg) (U : FnP K "_law_matrix" 20 fd) : FnOk P w K mg base (L2.CX P w) (k + 2) (He.ga K "_law_matrix") fd ["tape", "kind", "singles", "sets", "depth"] (spG K (d__law_matrix Γ) 5) :=
  fn_G (k := k + 1) U s__law_matrix (fun args h _ => .inl rfl) fun cdv A outer s H E hr hp tk => w__law_matrix F M k1 IO_SyntaxProblem fc hr hp tk
theorem s__law_put : FnScope ["tape", "out", "string", "last", "letters", "gap"] ["tape", "out", "string"] (defScope (top 21)) := ⟨rfl, rfl, rfl, by decide +kernel, rfl, by decide +kernel, by decide +kernel⟩
theorem w__law_put (F : AllK P w K mg base sig k Γ) (M : AllM P w K mg base msig 18 k Γ) (k1 : 1 ≤ k) (IO_SyntaxProblem : InitOk P w K mg base (clsA K [83, 121, 110, 116, 97, 120, 80, 114, 111, 98, 108, 101, 109]) (He.ma K (clsA K [83, 121, 110, 116, 97, 120, 80, 114, 111, 98, 108, 101, 109]) (sOf [95, 95, 105, 110, 105, 116, 95, 95])) ["self", "start"] "start") (fc : Fc K mg) {fa : Addr} {cdv : Value} {A : Around} {outer : List PySem.Env} {s : Shared} {H : Hp} {E : XK} (hr : Room (k + 1) (A.deeper (envOfC "_law_put" (defScope (top 21)) s.heap.objs.size fa cdv)))
    (hp : PassesOwn (model P w) (A.deeper (envOfC "_law_put" (defScope (top 21)) s.heap.objs.size fa cdv)) (envOfC "_law_put" (defScope (top 21)) s.heap.objs.size fa cdv) (cxOf (L2.CX P w) P w K mg base ["tape", "out", "string", "last", "letters", "gap"] "_law_put" (defScope (top 21)) fa cdv A outer s H E).xe)
    (tk : Takes (cxOf (L2.CX P w) P w K mg base ["tape", "out", "string", "last", "letters", "gap"] "_law_put" (defScope (top 21)) fa cdv A outer s H E) (WD E)) :
    GSs (cxOf (L2.CX P w) P w K mg base ["tape", "out", "string", "last", "letters", "gap"] "_law_put" (defScope (top 21)) fa cdv A outer s H E) (WD E) (defBody (top 21)) (b__law_put Γ) := by
  have nd : (["tape", "out", "string", "last", "letters", "gap"] : List Str).Nodup := s__law_put.nd
  have hu : (cxOf (L2.CX P w) P w K mg base ["tape", "out", "string", "last", "letters", "gap"] "_law_put" (defScope (top 21)) fa cdv A outer s H E).A.units + 200 < cLine := by
    have := hr.un
    show (A.deeper (envOfC "_law_put" (defScope (top 21)) s.heap.objs.size fa cdv)).units + 200 < cLine
    omega
  have hu1 : (cxOf (L2.CX P w) P w K mg base ["tape", "out", "string", "last", "letters", "gap"] "_law_put" (defScope (top 21)) fa cdv A outer s H E).A.units + 1 < cLine := by omega
  exact (gs_cons (gs_set 3 (ge_cut (ge_ix hu1 (ge_var 1) (ge_str [116, 101, 120, 116])) (go_some (ge_neg ge_int)) go_none) nd)
    (gs_cons (gs_set 4 (ge_str [97, 98, 99, 100, 101, 102, 103, 104, 105, 106, 107, 108, 109, 110, 111, 112, 113, 114, 115, 116, 117, 118, 119, 120, 121, 122, 65, 66, 67, 68, 69, 70, 71, 72, 73, 74, 75, 76, 77, 78, 79, 80, 81, 82, 83, 84, 85, 86, 87, 88, 89, 90, 48, 49, 50, 51, 52, 53, 54, 55, 56, 57]) nd)
    (gs_cons (gs_set 5 (ge_ix hu1 (ge_lst (ga_cons (ge_str [32]) (ga_cons (ge_str []) (ga_cons (ge_str [10]) (ga_cons (ge_str [32, 32]) ga_nil))))) (ge_bin og_div (ge_fn (F 4 _ _ rfl) (hr.mono (Nat.le_succ _)) tk (gan_cons (ge_var 0) (gan_cons ge_int gan_nil))) ge_int)) nd)
    (gs_cons (gs_if (GW.pt (gw_and (gt_cmp (og_eq hu) (ge_var 5) (ge_str [])) (gw_and (gt_cmp (og_ne hu) (ge_var 3) (ge_str [])) (gw_and (gt_cmp (og_in hu) (ge_var 3) (ge_var 4)) (gw_and1 (gt_cmp (og_in hu) (ge_ix hu1 (ge_var 2) ge_int) (ge_var 4))))))) (gs_cons (gs_set 5 (ge_str [32]) nd)
    gs_nil) gs_nil)
    (gs_cons (gs_asg (ge_bin og_add (ge_bin og_add (ge_ix hu1 (ge_var 1) (ge_str [116, 101, 120, 116])) (ge_var 5)) (ge_var 2)) (gg_sub hu1 (ge_var 1) (ge_str [116, 101, 120, 116])))
    gs_nil)))))
theorem k__law_put {fd : FuncData} (F : AllK P w K mg base sig k Γ) (M : AllM P w K mg base msig 18 k Γ) (k1 : 1 ≤ k) (IO_SyntaxProblem : InitOk P w K mg base (clsA K [83, 121, 110, 116, 97, 120, 80, 114, 111, 98, 108, 101, 109]) (He.ma K (clsA K [83, 121, 110, 116, 97, 120, 80, 114, 111, 98, 108, 101, 109]) (sOf [95, 95, 105, 110, 105, 116, 95, 95])) ["self", "start"] "start") (fc : Fc K mg) (U : FnP K "_law_put" 21 fd) : FnOk P w K mg base (L2.CX P w) (k + 2) (He.ga K "_law_put") fd ["tape", "out", "string"] (spG K (d__law_put Γ) 3) :=
  fn_G (k := k + 1) U s__law_put (fun args h _ => .inl rfl) fun cdv A outer s H E hr hp tk => w__law_put F M k1 IO_SyntaxProblem fc hr hp tk
theorem s__law_put_all : FnScope ["tape", "out", "strings", "string"] ["tape", "out", "strings"] (defScope (top 22)) := ⟨rfl, rfl, rfl, by decide +kernel, rfl, by decide +kernel, by decide +kernel⟩
theorem w__law_put_all (F : AllK P w K mg base sig k Γ) (M : AllM P w K mg base msig 18 k Γ) (k1 : 1 ≤ k) (IO_SyntaxProblem : InitOk P w K mg base (clsA K [83, 121, 110, 116, 97, 120, 80, 114, 111, 98, 108, 101, 109]) (He.ma K (clsA K [83, 121, 110, 116, 97, 120, 80, 114, 111, 98, 108, 101, 109]) (sOf [95, 95, 105, 110, 105, 116, 95, 95])) ["self", "start"] "start") (fc : Fc K mg) {fa : Addr} {cdv : Value} {A : Around} {outer : List PySem.Env} {s : Shared} {H : Hp} {E : XK} (hr : Room (k + 1) (A.deeper (envOfC "_law_put_all" (defScope (top 22)) s.heap.objs.size fa cdv)))
    (hp : PassesOwn (model P w) (A.deeper (envOfC "_law_put_all" (defScope (top 22)) s.heap.objs.size fa cdv)) (envOfC "_law_put_all" (defScope (top 22)) s.heap.objs.size fa cdv) (cxOf (L2.CX P w) P w K mg base ["tape", "out", "strings", "string"] "_law_put_all" (defScope (top 22)) fa cdv A outer s H E).xe)
    (tk : Takes (cxOf (L2.CX P w) P w K mg base ["tape", "out", "strings", "string"] "_law_put_all" (defScope (top 22)) fa cdv A outer s H E) (WD E)) :
    GSs (cxOf (L2.CX P w) P w K mg base ["tape", "out", "strings", "string"] "_law_put_all" (defScope (top 22)) fa cdv A outer s H E) (WD E) (defBody (top 22)) (b__law_put_all Γ) := by
  have nd : (["tape", "out", "strings", "string"] : List Str).Nodup := s__law_put_all.nd
  have hu : (cxOf (L2.CX P w) P w K mg base ["tape", "out", "strings", "string"] "_law_put_all" (defScope (top 22)) fa cdv A outer s H E).A.units + 200 < cLine := by
    have := hr.un
    show (A.deeper (envOfC "_law_put_all" (defScope (top 22)) s.heap.objs.size fa cdv)).units + 200 < cLine
    omega
  have hu1 : (cxOf (L2.CX P w) P w K mg base ["tape", "out", "strings", "string"] "_law_put_all" (defScope (top 22)) fa cdv A outer s H E).A.units + 1 < cLine := by omega
  exact (gs_cons (gs_for hp rfl (gi_seq (ge_var 2)) (gg_name 3 nd) (gs_cons (gs_expr (ge_fn (F 10 _ _ rfl) (hr.mono (Nat.le_succ _)) tk (gan_cons (ge_var 0) (gan_cons (ge_var 1) (gan_cons (ge_var 3) gan_nil)))))
    gs_nil))
    gs_nil)
theorem k__law_put_all {fd : FuncData} (F : AllK P w K mg base sig k Γ) (M : AllM P w K mg base msig 18 k Γ) (k1 : 1 ≤ k) (IO_SyntaxProblem : InitOk P w K mg base (clsA K [83, 121, 110, 116, 97, 120, 80, 114, 111, 98, 108, 101, 109]) (He.ma K (clsA K [83, 121, 110, 116, 97, 120, 80, 114, 111, 98, 108, 101, 109]) (sOf [95, 95, 105, 110, 105, 116, 95, 95])) ["self", "start"] "start") (fc : Fc K mg) (U : FnP K "_law_put_all" 22 fd) : FnOk P w K mg base (L2.CX P w) (k + 2) (He.ga K "_law_put_all") fd ["tape", "out", "strings"] (spG K (d__law_put_all Γ) 3) :=
  fn_G (k := k + 1) U s__law_put_all (fun args h _ => .inl rfl) fun cdv A outer s H E hr hp tk => w__law_put_all F M k1 IO_SyntaxProblem fc hr hp tk
theorem s__law_put_formula : FnScope ["tape", "out", "formula", "least", "word", "rank", "brackets", "names"] ["tape", "out", "formula", "least"] (defScope (top 23)) := ⟨rfl, rfl, rfl, by decide +kernel, rfl, by decide +kernel, by decide +kernel⟩
theorem w__law_put_formula (F : AllK P w K mg base sig k Γ) (M : AllM P w K mg base msig 18 k Γ) (k1 : 1 ≤ k) (IO_SyntaxProblem : InitOk P w K mg base (clsA K [83, 121, 110, 116, 97, 120, 80, 114, 111, 98, 108, 101, 109]) (He.ma K (clsA K [83, 121, 110, 116, 97, 120, 80, 114, 111, 98, 108, 101, 109]) (sOf [95, 95, 105, 110, 105, 116, 95, 95])) ["self", "start"] "start") (fc : Fc K mg) {fa : Addr} {cdv : Value} {A : Around} {outer : List PySem.Env} {s : Shared} {H : Hp} {E : XK} (hr : Room (k + 1) (A.deeper (envOfC "_law_put_formula" (defScope (top 23)) s.heap.objs.size fa cdv)))
    (hp : PassesOwn (model P w) (A.deeper (envOfC "_law_put_formula" (defScope (top 23)) s.heap.objs.size fa cdv)) (envOfC "_law_put_formula" (defScope (top 23)) s.heap.objs.size fa cdv) (cxOf (L2.CX P w) P w K mg base ["tape", "out", "formula", "least", "word", "rank", "brackets", "names"] "_law_put_formula" (defScope (top 23)) fa cdv A outer s H E).xe)
    (tk : Takes (cxOf (L2.CX P w) P w K mg base ["tape", "out", "formula", "least", "word", "rank", "brackets", "names"] "_law_put_formula" (defScope (top 23)) fa cdv A outer s H E) (WD E)) :
    GSs (cxOf (L2.CX P w) P w K mg base ["tape", "out", "formula", "least", "word", "rank", "brackets", "names"] "_law_put_formula" (defScope (top 23)) fa cdv A outer s H E) (WD E) (defBody (top 23)) (b__law_put_formula Γ) := by
  have nd : (["tape", "out", "formula", "least", "word", "rank", "brackets", "names"] : List Str).Nodup := s__law_put_formula.nd
  have hu : (cxOf (L2.CX P w) P w K mg base ["tape", "out", "formula", "least", "word", "rank", "brackets", "names"] "_law_put_formula" (defScope (top 23)) fa cdv A outer s H E).A.units + 200 < cLine := by
    have := hr.un
    show (A.deeper (envOfC "_law_put_formula" (defScope (top 23)) s.heap.objs.size fa cdv)).units + 200 < cLine
    omega
  have hu1 : (cxOf (L2.CX P w) P w K mg base ["tape", "out", "formula", "least", "word", "rank", "brackets", "names"] "_law_put_formula" (defScope (top 23)) fa cdv A outer s H E).A.units + 1 < cLine := by omega
  exact (gs_cons (gs_set 4 (ge_ix hu1 (ge_var 2) ge_int) nd)
    (gs_cons (gs_set 5 (ge_get2 hu1 (ge_disp (gps_cons (ge_str [111, 114]) ge_int (gps_cons (ge_str [97, 110, 100]) ge_int gps_nil))) (ge_var 4) (ge_if (gt_cmp (og_in hu) (ge_var 4) (ge_lst (ga_cons (ge_str [108, 97, 98, 101, 108]) (ga_cons (ge_str [99, 104, 105, 108, 100]) (ga_cons (ge_str [98, 101, 108, 111, 119]) (ga_cons (ge_str [115, 97, 109, 101]) (ga_cons (ge_str [116, 111, 112]) (ga_cons (ge_str [105, 110]) (ga_cons (ge_str [105, 110, 115, 105, 100, 101]) (ga_cons (ge_str [116, 114, 117, 101]) ga_nil)))))))))) ge_int ge_int)) nd)
    (gs_cons (gs_set 6 (ge_or (ge_cmp og_lt (ge_var 5) (ge_var 3)) (ge_one (ge_cmp (og_eq hu) (ge_fn (F 4 _ _ rfl) (hr.mono (Nat.le_succ _)) tk (gan_cons (ge_var 0) (gan_cons ge_int gan_nil))) ge_int))) nd)
    (gs_cons (gs_if (gt_tru (ge_var 6)) (gs_cons (gs_expr (ge_fn (F 10 _ _ rfl) (hr.mono (Nat.le_succ _)) tk (gan_cons (ge_var 0) (gan_cons (ge_var 1) (gan_cons (ge_str [40]) gan_nil)))))
    gs_nil) gs_nil)
    (gs_cons (gs_if (gt_cmp (og_eq hu) (ge_var 4) (ge_str [116, 114, 117, 101])) (gs_cons (gs_expr (ge_fn (F 10 _ _ rfl) (hr.mono (Nat.le_succ _)) tk (gan_cons (ge_var 0) (gan_cons (ge_var 1) (gan_cons (ge_var 4) gan_nil)))))
    gs_nil) (gs_cons (gs_if (gt_cmp (og_in hu) (ge_var 4) (ge_lst (ga_cons (ge_str [108, 97, 98, 101, 108]) (ga_cons (ge_str [99, 104, 105, 108, 100]) ga_nil)))) (gs_cons (gs_set 7 (ge_t1 c1_list (ge_cut (ge_var 2) (go_some ge_int) go_none) fc.f_list) nd)
    (gs_cons (gs_expr (ge_fn (F 11 _ _ rfl) (hr.mono (Nat.le_succ _)) tk (gan_cons (ge_var 0) (gan_cons (ge_var 1) (gan_cons (ge_bin og_add (ge_bin og_add (ge_lst (ga_cons (ge_var 4) (ga_cons (ge_t1 c1_strS (ge_ix hu1 (ge_var 2) ge_int) fc.f_str) (ga_cons (ge_str [40]) (ga_cons (ge_ix hu1 (ge_var 7) ge_int) ga_nil))))) (ge_bin og_mul (ge_lst (ga_cons (ge_str [44]) (ga_cons (ge_ix hu1 (ge_var 7) (ge_neg ge_int)) ga_nil))) (ge_bin og_sub (ge_len (ge_var 7) fc.f_len) ge_int))) (ge_lst (ga_cons (ge_str [41]) ga_nil))) gan_nil)))))
    gs_nil)) (gs_cons (gs_if (gt_cmp (og_eq hu) (ge_var 5) ge_int) (gs_cons (gs_expr (ge_fn (F 11 _ _ rfl) (hr.mono (Nat.le_succ _)) tk (gan_cons (ge_var 0) (gan_cons (ge_var 1) (gan_cons (ge_bin og_add (ge_bin og_add (ge_lst (ga_cons (ge_var 4) (ga_cons (ge_str [40]) (ga_cons (ge_ix hu1 (ge_var 2) ge_int) ga_nil)))) (ge_bin og_mul (ge_lst (ga_cons (ge_str [44]) (ga_cons (ge_ix hu1 (ge_var 2) (ge_neg ge_int)) ga_nil))) (ge_bin og_sub (ge_len (ge_var 2) fc.f_len) ge_int))) (ge_lst (ga_cons (ge_str [41]) ga_nil))) gan_nil)))))
    gs_nil) (gs_cons (gs_if (gt_cmp (og_eq hu) (ge_var 4) (ge_str [110, 111, 116])) (gs_cons (gs_expr (ge_fn (F 10 _ _ rfl) (hr.mono (Nat.le_succ _)) tk (gan_cons (ge_var 0) (gan_cons (ge_var 1) (gan_cons (ge_var 4) gan_nil)))))
    (gs_cons (gs_expr (ge_fn (F 12 _ _ rfl) (hr.mono (Nat.le_succ _)) tk (gan_cons (ge_var 0) (gan_cons (ge_var 1) (gan_cons (ge_ix hu1 (ge_var 2) ge_int) (gan_cons ge_int gan_nil))))))
    gs_nil)) (gs_cons (gs_if (gt_cmp og_lt (ge_var 5) ge_int) (gs_cons (gs_expr (ge_fn (F 12 _ _ rfl) (hr.mono (Nat.le_succ _)) tk (gan_cons (ge_var 0) (gan_cons (ge_var 1) (gan_cons (ge_ix hu1 (ge_var 2) ge_int) (gan_cons (ge_var 5) gan_nil))))))
    (gs_cons (gs_expr (ge_fn (F 10 _ _ rfl) (hr.mono (Nat.le_succ _)) tk (gan_cons (ge_var 0) (gan_cons (ge_var 1) (gan_cons (ge_var 4) gan_nil)))))
    (gs_cons (gs_expr (ge_fn (F 12 _ _ rfl) (hr.mono (Nat.le_succ _)) tk (gan_cons (ge_var 0) (gan_cons (ge_var 1) (gan_cons (ge_ix hu1 (ge_var 2) ge_int) (gan_cons (ge_bin og_add (ge_var 5) ge_int) gan_nil))))))
    gs_nil))) (gs_cons (gs_expr (ge_fn (F 11 _ _ rfl) (hr.mono (Nat.le_succ _)) tk (gan_cons (ge_var 0) (gan_cons (ge_var 1) (gan_cons (ge_lst (ga_cons (ge_if (gt_cmp (og_in hu) (ge_var 4) (ge_lst (ga_cons (ge_str [115, 111, 109, 101]) (ga_cons (ge_str [115, 111, 109, 101, 115, 101, 116]) ga_nil)))) (ge_str [115, 111, 109, 101]) (ge_str [97, 108, 108])) (ga_cons (ge_ix hu1 (ge_var 2) ge_int) (ga_cons (ge_str [58]) ga_nil)))) gan_nil)))))
    (gs_cons (gs_expr (ge_fn (F 12 _ _ rfl) (hr.mono (Nat.le_succ _)) tk (gan_cons (ge_var 0) (gan_cons (ge_var 1) (gan_cons (ge_ix hu1 (ge_var 2) ge_int) (gan_cons ge_int gan_nil))))))
    gs_nil)))
    gs_nil))
    gs_nil))
    gs_nil))
    gs_nil))
    (gs_cons (gs_if (gt_tru (ge_var 6)) (gs_cons (gs_expr (ge_fn (F 10 _ _ rfl) (hr.mono (Nat.le_succ _)) tk (gan_cons (ge_var 0) (gan_cons (ge_var 1) (gan_cons (ge_str [41]) gan_nil)))))
    gs_nil) gs_nil)
    gs_nil))))))
theorem k__law_put_formula {fd : FuncData} (F : AllK P w K mg base sig k Γ) (M : AllM P w K mg base msig 18 k Γ) (k1 : 1 ≤ k) (IO_SyntaxProblem : InitOk P w K mg base (clsA K [83, 121, 110, 116, 97, 120, 80, 114, 111, 98, 108, 101, 109]) (He.ma K (clsA K [83, 121, 110, 116, 97, 120, 80, 114, 111, 98, 108, 101, 109]) (sOf [95, 95, 105, 110, 105, 116, 95, 95])) ["self", "start"] "start") (fc : Fc K mg) (U : FnP K "_law_put_formula" 23 fd) : FnOk P w K mg base (L2.CX P w) (k + 2) (He.ga K "_law_put_formula") fd ["tape", "out", "formula", "least"] (spG K (d__law_put_formula Γ) 4) :=
  fn_G (k := k + 1) U s__law_put_formula (fun args h _ => .inl rfl) fun cdv A outer s H E hr hp tk => w__law_put_formula F M k1 IO_SyntaxProblem fc hr hp tk
theorem s__law_read : FnScope ["text", "e"] ["text"] (defScope (top 24)) := ⟨rfl, rfl, rfl, by decide +kernel, rfl, by decide +kernel, by decide +kernel⟩
theorem w__law_read (F : AllK P w K mg base sig k Γ) (M : AllM P w K mg base msig 18 k Γ) (k1 : 1 ≤ k) (IO_SyntaxProblem : InitOk P w K mg base (clsA K [83, 121, 110, 116, 97, 120, 80, 114, 111, 98, 108, 101, 109]) (He.ma K (clsA K [83, 121, 110, 116, 97, 120, 80, 114, 111, 98, 108, 101, 109]) (sOf [95, 95, 105, 110, 105, 116, 95, 95])) ["self", "start"] "start") (fc : Fc K mg) {fa : Addr} {cdv : Value} {A : Around} {outer : List PySem.Env} {s : Shared} {H : Hp} {E : XK} (hr : Room (k + 1) (A.deeper (envOfC "_law_read" (defScope (top 24)) s.heap.objs.size fa cdv)))
    (hp : PassesOwn (model P w) (A.deeper (envOfC "_law_read" (defScope (top 24)) s.heap.objs.size fa cdv)) (envOfC "_law_read" (defScope (top 24)) s.heap.objs.size fa cdv) (cxOf (L2.CX P w) P w K mg base ["text", "e"] "_law_read" (defScope (top 24)) fa cdv A outer s H E).xe)
    (tk : Takes (cxOf (L2.CX P w) P w K mg base ["text", "e"] "_law_read" (defScope (top 24)) fa cdv A outer s H E) (WD E)) :
    GSs (cxOf (L2.CX P w) P w K mg base ["text", "e"] "_law_read" (defScope (top 24)) fa cdv A outer s H E) (WD E) (defBody (top 24)) (b__law_read Γ) := by
  have nd : (["text", "e"] : List Str).Nodup := s__law_read.nd
  have hu : (cxOf (L2.CX P w) P w K mg base ["text", "e"] "_law_read" (defScope (top 24)) fa cdv A outer s H E).A.units + 200 < cLine := by
    have := hr.un
    show (A.deeper (envOfC "_law_read" (defScope (top 24)) s.heap.objs.size fa cdv)).units + 200 < cLine
    omega
  have hu1 : (cxOf (L2.CX P w) P w K mg base ["text", "e"] "_law_read" (defScope (top 24)) fa cdv A outer s H E).A.units + 1 < cLine := by omega
  exact (gs_cons (gs_tryFld (i := 1) (nm := "e") (x := "SyntaxProblem") [83, 121, 110, 116, 97, 120, 80, 114, 111, 98, 108, 101, 109] [115, 116, 97, 114, 116] (by rfl) (by rfl) nd (by rfl) (by rfl) ⟨(by rfl), by decide +kernel, .inl fc.og_SyntaxProblem⟩ tk fc.om_SyntaxProblem fc.ox_SyntaxProblem fc.on_SyntaxProblem (fun _ _ _ tk hp => (gs_cons (gs_expr (ge_fn (F 2 _ _ rfl) (hr.mono (Nat.le_succ _)) tk (gan_cons (ge_var 0) gan_nil)))
    gs_nil)))
    (gs_cons (gs_ret ge_non)
    gs_nil))
theorem k__law_read {fd : FuncData} (F : AllK P w K mg base sig k Γ) (M : AllM P w K mg base msig 18 k Γ) (k1 : 1 ≤ k) (IO_SyntaxProblem : InitOk P w K mg base (clsA K [83, 121, 110, 116, 97, 120, 80, 114, 111, 98, 108, 101, 109]) (He.ma K (clsA K [83, 121, 110, 116, 97, 120, 80, 114, 111, 98, 108, 101, 109]) (sOf [95, 95, 105, 110, 105, 116, 95, 95])) ["self", "start"] "start") (fc : Fc K mg) (U : FnP K "_law_read" 24 fd) : FnOk P w K mg base (L2.CX P w) (k + 2) (He.ga K "_law_read") fd ["text"] (spG K (d__law_read Γ) 1) :=
  fn_G (k := k + 1) U s__law_read (fun args h _ => .inr rfl) fun cdv A outer s H E hr hp tk => w__law_read F M k1 IO_SyntaxProblem fc hr hp tk
theorem s__law_scraps : FnScope ["tape", "words", "k"] ["tape"] (defScope (top 25)) := ⟨rfl, rfl, rfl, by decide +kernel, rfl, by decide +kernel, by decide +kernel⟩
theorem w__law_scraps (F : AllK P w K mg base sig k Γ) (M : AllM P w K mg base msig 18 k Γ) (k1 : 1 ≤ k) (IO_SyntaxProblem : InitOk P w K mg base (clsA K [83, 121, 110, 116, 97, 120, 80, 114, 111, 98, 108, 101, 109]) (He.ma K (clsA K [83, 121, 110, 116, 97, 120, 80, 114, 111, 98, 108, 101, 109]) (sOf [95, 95, 105, 110, 105, 116, 95, 95])) ["self", "start"] "start") (fc : Fc K mg) {fa : Addr} {cdv : Value} {A : Around} {outer : List PySem.Env} {s : Shared} {H : Hp} {E : XK} (hr : Room (k + 1) (A.deeper (envOfC "_law_scraps" (defScope (top 25)) s.heap.objs.size fa cdv)))
    (hp : PassesOwn (model P w) (A.deeper (envOfC "_law_scraps" (defScope (top 25)) s.heap.objs.size fa cdv)) (envOfC "_law_scraps" (defScope (top 25)) s.heap.objs.size fa cdv) (cxOf (L2.CX P w) P w K mg base ["tape", "words", "k"] "_law_scraps" (defScope (top 25)) fa cdv A outer s H E).xe)
    (tk : Takes (cxOf (L2.CX P w) P w K mg base ["tape", "words", "k"] "_law_scraps" (defScope (top 25)) fa cdv A outer s H E) (WD E)) :
    GSs (cxOf (L2.CX P w) P w K mg base ["tape", "words", "k"] "_law_scraps" (defScope (top 25)) fa cdv A outer s H E) (WD E) (defBody (top 25)) (b__law_scraps Γ) := by
  have nd : (["tape", "words", "k"] : List Str).Nodup := s__law_scraps.nd
  have hu : (cxOf (L2.CX P w) P w K mg base ["tape", "words", "k"] "_law_scraps" (defScope (top 25)) fa cdv A outer s H E).A.units + 200 < cLine := by
    have := hr.un
    show (A.deeper (envOfC "_law_scraps" (defScope (top 25)) s.heap.objs.size fa cdv)).units + 200 < cLine
    omega
  have hu1 : (cxOf (L2.CX P w) P w K mg base ["tape", "words", "k"] "_law_scraps" (defScope (top 25)) fa cdv A outer s H E).A.units + 1 < cLine := by omega
  exact (gs_cons (gs_set 1 (ge_lst (ga_cons (ge_str [115, 111, 109, 101]) (ga_cons (ge_str [120]) (ga_cons (ge_str [88]) (ga_cons (ge_str [58]) (ga_cons (ge_str [40]) (ga_cons (ge_str [41]) (ga_cons (ge_str [44]) (ga_cons (ge_str [108, 97, 98, 101, 108]) (ga_cons (ge_str [97]) (ga_cons (ge_str [99, 104, 105, 108, 100]) (ga_cons (ge_str [48]) (ga_cons (ge_str [105, 110]) (ga_cons (ge_str [110, 111, 116]) (ga_cons (ge_str [97, 110, 100]) (ga_cons (ge_str [111, 114]) (ga_cons (ge_str [116, 114, 117, 101]) (ga_cons (ge_str [63]) (ga_cons (ge_str [116, 111, 112]) ga_nil))))))))))))))))))) nd)
    (gs_cons (gs_ret (ge_lc fin_frozen [("k", 2)] rfl nd (gi_range1 (ge_fn (F 4 _ _ rfl) (hr.mono (Nat.le_succ _)) tk (gan_cons (ge_var 0) (gan_cons ge_int gan_nil))) fc.f_range) (fun _ _ _ _ _ => (gc_name 2 nd)) (fun _ _ _ _ _ => gts_nil) (fun _ _ _ _ _ => (ge_ix hu1 (ge_var 1) (ge_fn (F 4 _ _ rfl) (hr.mono (Nat.le_succ _)) GH.takes0 (gan_cons (ge_var 0) (gan_cons ge_int gan_nil)))))))
    gs_nil))
theorem k__law_scraps {fd : FuncData} (F : AllK P w K mg base sig k Γ) (M : AllM P w K mg base msig 18 k Γ) (k1 : 1 ≤ k) (IO_SyntaxProblem : InitOk P w K mg base (clsA K [83, 121, 110, 116, 97, 120, 80, 114, 111, 98, 108, 101, 109]) (He.ma K (clsA K [83, 121, 110, 116, 97, 120, 80, 114, 111, 98, 108, 101, 109]) (sOf [95, 95, 105, 110, 105, 116, 95, 95])) ["self", "start"] "start") (fc : Fc K mg) (U : FnP K "_law_scraps" 25 fd) : FnOk P w K mg base (L2.CX P w) (k + 2) (He.ga K "_law_scraps") fd ["tape"] (spG K (d__law_scraps Γ) 1) :=
  fn_G (k := k + 1) U s__law_scraps (fun args h _ => .inl rfl) fun cdv A outer s H E hr hp tk => w__law_scraps F M k1 IO_SyntaxProblem fc hr hp tk
theorem s__law_tokens : FnScope ["text", "found", "at", "letters", "k", "char"] ["text"] (defScope (top 26)) := ⟨rfl, rfl, rfl, by decide +kernel, rfl, by decide +kernel, by decide +kernel⟩
theorem w__law_tokens (F : AllK P w K mg base sig k Γ) (M : AllM P w K mg base msig 18 k Γ) (k1 : 1 ≤ k) (IO_SyntaxProblem : InitOk P w K mg base (clsA K [83, 121, 110, 116, 97, 120, 80, 114, 111, 98, 108, 101, 109]) (He.ma K (clsA K [83, 121, 110, 116, 97, 120, 80, 114, 111, 98, 108, 101, 109]) (sOf [95, 95, 105, 110, 105, 116, 95, 95])) ["self", "start"] "start") (fc : Fc K mg) {fa : Addr} {cdv : Value} {A : Around} {outer : List PySem.Env} {s : Shared} {H : Hp} {E : XK} (hr : Room (k + 1) (A.deeper (envOfC "_law_tokens" (defScope (top 26)) s.heap.objs.size fa cdv)))
    (hp : PassesOwn (model P w) (A.deeper (envOfC "_law_tokens" (defScope (top 26)) s.heap.objs.size fa cdv)) (envOfC "_law_tokens" (defScope (top 26)) s.heap.objs.size fa cdv) (cxOf (L2.CX P w) P w K mg base ["text", "found", "at", "letters", "k", "char"] "_law_tokens" (defScope (top 26)) fa cdv A outer s H E).xe)
    (tk : Takes (cxOf (L2.CX P w) P w K mg base ["text", "found", "at", "letters", "k", "char"] "_law_tokens" (defScope (top 26)) fa cdv A outer s H E) (WD E)) :
    GSs (cxOf (L2.CX P w) P w K mg base ["text", "found", "at", "letters", "k", "char"] "_law_tokens" (defScope (top 26)) fa cdv A outer s H E) (WD E) (defBody (top 26)) (b__law_tokens Γ) := by
  have nd : (["text", "found", "at", "letters", "k", "char"] : List Str).Nodup := s__law_tokens.nd
  have hu : (cxOf (L2.CX P w) P w K mg base ["text", "found", "at", "letters", "k", "char"] "_law_tokens" (defScope (top 26)) fa cdv A outer s H E).A.units + 200 < cLine := by
    have := hr.un
    show (A.deeper (envOfC "_law_tokens" (defScope (top 26)) s.heap.objs.size fa cdv)).units + 200 < cLine
    omega
  have hu1 : (cxOf (L2.CX P w) P w K mg base ["text", "found", "at", "letters", "k", "char"] "_law_tokens" (defScope (top 26)) fa cdv A outer s H E).A.units + 1 < cLine := by omega
  exact (gs_cons (gs_set 1 (ge_lstM ga_nil) nd)
    (gs_cons (gs_set 2 ge_int nd)
    (gs_cons (gs_set 3 (ge_str [97, 98, 99, 100, 101, 102, 103, 104, 105, 106, 107, 108, 109, 110, 111, 112, 113, 114, 115, 116, 117, 118, 119, 120, 121, 122, 65, 66, 67, 68, 69, 70, 71, 72, 73, 74, 75, 76, 77, 78, 79, 80, 81, 82, 83, 84, 85, 86, 87, 88, 89, 90]) nd)
    (gs_cons (gs_for hp rfl (gi_range1 (ge_len (ge_var 0) fc.f_len) fc.f_range) (gg_name 4 nd) (gs_cons (gs_if (GW.pt (gw_or (gt_cmp og_lt (ge_var 4) (ge_var 2)) (gw_or (gt_cmp (og_eq hu) (ge_ix hu1 (ge_var 0) (ge_var 4)) (ge_str [32])) (gw_or1 (gt_cmp (og_eq hu) (ge_ix hu1 (ge_var 0) (ge_var 4)) (ge_str [10])))))) (gs_cons gs_continue
    gs_nil) gs_nil)
    (gs_cons (gs_set 2 (ge_bin og_add (ge_var 4) ge_int) nd)
    (gs_cons (gs_if (gt_cmp (og_in hu) (ge_ix hu1 (ge_var 0) (ge_var 4)) (ge_var 3)) (gs_cons (gs_for hp rfl (gi_seq (ge_cut (ge_var 0) (go_some (ge_bin og_add (ge_var 4) ge_int)) go_none)) (gg_name 5 nd) (gs_cons (gs_if (gt_cmp (og_notIn hu) (ge_var 5) (ge_bin og_add (ge_var 3) (ge_str [48, 49, 50, 51, 52, 53, 54, 55, 56, 57]))) (gs_cons gs_break
    gs_nil) gs_nil)
    (gs_cons (gs_set 2 (ge_bin og_add (ge_var 2) ge_int) nd)
    gs_nil)))
    gs_nil) gs_nil)
    (gs_cons (gs_expr (ge_append (ge_var 1) (ge_tup (ga_cons (ge_var 4) (ga_cons (ge_var 2) ga_nil)))))
    gs_nil)))))
    (gs_cons (gs_ret (ge_var 1))
    gs_nil)))))
theorem k__law_tokens {fd : FuncData} (F : AllK P w K mg base sig k Γ) (M : AllM P w K mg base msig 18 k Γ) (k1 : 1 ≤ k) (IO_SyntaxProblem : InitOk P w K mg base (clsA K [83, 121, 110, 116, 97, 120, 80, 114, 111, 98, 108, 101, 109]) (He.ma K (clsA K [83, 121, 110, 116, 97, 120, 80, 114, 111, 98, 108, 101, 109]) (sOf [95, 95, 105, 110, 105, 116, 95, 95])) ["self", "start"] "start") (fc : Fc K mg) (U : FnP K "_law_tokens" 26 fd) : FnOk P w K mg base (L2.CX P w) (k + 2) (He.ga K "_law_tokens") fd ["text"] (spG K (d__law_tokens Γ) 1) :=
  fn_G (k := k + 1) U s__law_tokens (fun args h _ => .inr rfl) fun cdv A outer s H E hr hp tk => w__law_tokens F M k1 IO_SyntaxProblem fc hr hp tk
theorem s__law_typed_right : FnScope ["tape", "typed", "text", "place"] ["tape"] (defScope (top 27)) := ⟨rfl, rfl, rfl, by decide +kernel, rfl, by decide +kernel, by decide +kernel⟩
theorem w__law_typed_right (F : AllK P w K mg base sig k Γ) (M : AllM P w K mg base msig 18 k Γ) (k1 : 1 ≤ k) (IO_SyntaxProblem : InitOk P w K mg base (clsA K [83, 121, 110, 116, 97, 120, 80, 114, 111, 98, 108, 101, 109]) (He.ma K (clsA K [83, 121, 110, 116, 97, 120, 80, 114, 111, 98, 108, 101, 109]) (sOf [95, 95, 105, 110, 105, 116, 95, 95])) ["self", "start"] "start") (fc : Fc K mg) {fa : Addr} {cdv : Value} {A : Around} {outer : List PySem.Env} {s : Shared} {H : Hp} {E : XK} (hr : Room (k + 1) (A.deeper (envOfC "_law_typed_right" (defScope (top 27)) s.heap.objs.size fa cdv)))
    (hp : PassesOwn (model P w) (A.deeper (envOfC "_law_typed_right" (defScope (top 27)) s.heap.objs.size fa cdv)) (envOfC "_law_typed_right" (defScope (top 27)) s.heap.objs.size fa cdv) (cxOf (L2.CX P w) P w K mg base ["tape", "typed", "text", "place"] "_law_typed_right" (defScope (top 27)) fa cdv A outer s H E).xe)
    (tk : Takes (cxOf (L2.CX P w) P w K mg base ["tape", "typed", "text", "place"] "_law_typed_right" (defScope (top 27)) fa cdv A outer s H E) (WD E)) :
    GSs (cxOf (L2.CX P w) P w K mg base ["tape", "typed", "text", "place"] "_law_typed_right" (defScope (top 27)) fa cdv A outer s H E) (WD E) (defBody (top 27)) (b__law_typed_right Γ) := by
  have nd : (["tape", "typed", "text", "place"] : List Str).Nodup := s__law_typed_right.nd
  have hu : (cxOf (L2.CX P w) P w K mg base ["tape", "typed", "text", "place"] "_law_typed_right" (defScope (top 27)) fa cdv A outer s H E).A.units + 200 < cLine := by
    have := hr.un
    show (A.deeper (envOfC "_law_typed_right" (defScope (top 27)) s.heap.objs.size fa cdv)).units + 200 < cLine
    omega
  have hu1 : (cxOf (L2.CX P w) P w K mg base ["tape", "typed", "text", "place"] "_law_typed_right" (defScope (top 27)) fa cdv A outer s H E).A.units + 1 < cLine := by omega
  exact (gs_cons (gs_set 1 (ge_lst (ga_cons (ge_tup (ga_cons (ge_str [108, 97, 98, 101, 108, 32, 97, 98, 40, 120, 41]) (ga_cons ge_int ga_nil))) (ga_cons (ge_tup (ga_cons (ge_str [108, 97, 98, 101, 108, 32, 66, 40, 120, 41]) (ga_cons ge_int ga_nil))) (ga_cons (ge_tup (ga_cons (ge_str [105, 110, 40, 88, 44, 32, 88, 41]) (ga_cons ge_int ga_nil))) (ga_cons (ge_tup (ga_cons (ge_str [105, 110, 40, 120, 44, 32, 121, 41]) (ga_cons ge_int ga_nil))) (ga_cons (ge_tup (ga_cons (ge_str [105, 110, 115, 105, 100, 101, 40, 120, 44, 32, 89, 41]) (ga_cons ge_int ga_nil))) (ga_cons (ge_tup (ga_cons (ge_str [98, 101, 108, 111, 119, 40, 120, 44, 32, 89, 41]) (ga_cons ge_int ga_nil))) ga_nil))))))) nd)
    (gs_cons (gs_set 1 (ge_bin og_add (ge_var 1) (ge_lst (ga_cons (ge_tup (ga_cons (ge_str [99, 104, 105, 108, 100, 32, 50, 40, 120, 44, 32, 121, 41]) (ga_cons ge_int ga_nil))) (ga_cons (ge_tup (ga_cons (ge_str [99, 104, 105, 108, 100, 32, 48, 40, 88, 44, 32, 121, 41]) (ga_cons ge_int ga_nil))) (ga_cons (ge_tup (ga_cons (ge_str [115, 111, 109, 101, 32, 58, 32, 116, 114, 117, 101]) (ga_cons ge_int ga_nil))) (ga_cons (ge_tup (ga_cons (ge_str [97, 108, 108, 32, 120, 32, 116, 114, 117, 101]) (ga_cons ge_int ga_nil))) (ga_cons (ge_tup (ga_cons (ge_str [110, 111, 116]) (ga_cons ge_int ga_nil))) (ga_cons (ge_tup (ga_cons (ge_str []) (ga_cons ge_int ga_nil))) ga_nil)))))))) nd)
    (gs_cons (gs_set 1 (ge_bin og_add (ge_var 1) (ge_lst (ga_cons (ge_tup (ga_cons (ge_str [40, 116, 114, 117, 101]) (ga_cons ge_int ga_nil))) (ga_cons (ge_tup (ga_cons (ge_str [116, 114, 117, 101, 32, 116, 114, 117, 101]) (ga_cons ge_int ga_nil))) (ga_cons (ge_tup (ga_cons (ge_str [116, 111, 112, 40, 120, 41, 32, 97, 110, 100]) (ga_cons ge_int ga_nil))) (ga_cons (ge_tup (ga_cons (ge_str [115, 111, 109, 101, 32, 97, 110, 100, 58, 32, 116, 114, 117, 101]) (ga_cons ge_int ga_nil))) (ga_cons (ge_tup (ga_cons (ge_str [108, 97, 98, 101, 108, 32, 97, 40, 88, 41]) (ga_cons ge_int ga_nil))) (ga_cons (ge_tup (ga_cons (ge_str [115, 97, 109, 101, 40, 120, 32, 121, 41]) (ga_cons ge_int ga_nil))) ga_nil)))))))) nd)
    (gs_cons (gs_asg (ge_ix hu1 (ge_var 1) (ge_fn (F 4 _ _ rfl) (hr.mono (Nat.le_succ _)) tk (gan_cons (ge_var 0) (gan_cons (ge_len (ge_var 1) fc.f_len) gan_nil)))) (gg_tup rfl (ggs_cons (gg_name 2 nd) (ggs_cons (gg_name 3 nd) ggs_nil))))
    (gs_cons (gs_ret (ge_fn (F 7 _ _ rfl) (hr.mono (Nat.le_succ _)) tk (gan_cons (ge_fn (F 13 _ _ rfl) (hr.mono (Nat.le_succ _)) tk (gan_cons (ge_var 2) gan_nil)) (gan_cons (ge_var 3) gan_nil))))
    gs_nil)))))
theorem k__law_typed_right {fd : FuncData} (F : AllK P w K mg base sig k Γ) (M : AllM P w K mg base msig 18 k Γ) (k1 : 1 ≤ k) (IO_SyntaxProblem : InitOk P w K mg base (clsA K [83, 121, 110, 116, 97, 120, 80, 114, 111, 98, 108, 101, 109]) (He.ma K (clsA K [83, 121, 110, 116, 97, 120, 80, 114, 111, 98, 108, 101, 109]) (sOf [95, 95, 105, 110, 105, 116, 95, 95])) ["self", "start"] "start") (fc : Fc K mg) (U : FnP K "_law_typed_right" 27 fd) : FnOk P w K mg base (L2.CX P w) (k + 2) (He.ga K "_law_typed_right") fd ["tape"] (spG K (d__law_typed_right Γ) 1) :=
  fn_G (k := k + 1) U s__law_typed_right (fun args h _ => .inl rfl) fun cdv A outer s H E hr hp tk => w__law_typed_right F M k1 IO_SyntaxProblem fc hr hp tk
theorem s_law : FnScope ["script", "tape", "k", "out", "found", "pieces", "choice", "more", "text", "place", "starts", "number", "end", "before", "start"] ["script"] (defScope (top 28)) := ⟨rfl, rfl, rfl, by decide +kernel, rfl, by decide +kernel, by decide +kernel⟩
theorem w_law (F : AllK P w K mg base sig k Γ) (M : AllM P w K mg base msig 18 k Γ) (k1 : 1 ≤ k) (IO_SyntaxProblem : InitOk P w K mg base (clsA K [83, 121, 110, 116, 97, 120, 80, 114, 111, 98, 108, 101, 109]) (He.ma K (clsA K [83, 121, 110, 116, 97, 120, 80, 114, 111, 98, 108, 101, 109]) (sOf [95, 95, 105, 110, 105, 116, 95, 95])) ["self", "start"] "start") (fc : Fc K mg) {fa : Addr} {cdv : Value} {A : Around} {outer : List PySem.Env} {s : Shared} {H : Hp} {E : XK} (hr : Room (k + 1) (A.deeper (envOfC "law" (defScope (top 28)) s.heap.objs.size fa cdv)))
    (hp : PassesOwn (model P w) (A.deeper (envOfC "law" (defScope (top 28)) s.heap.objs.size fa cdv)) (envOfC "law" (defScope (top 28)) s.heap.objs.size fa cdv) (cxOf (L2.CX P w) P w K mg base ["script", "tape", "k", "out", "found", "pieces", "choice", "more", "text", "place", "starts", "number", "end", "before", "start"] "law" (defScope (top 28)) fa cdv A outer s H E).xe)
    (tk : Takes (cxOf (L2.CX P w) P w K mg base ["script", "tape", "k", "out", "found", "pieces", "choice", "more", "text", "place", "starts", "number", "end", "before", "start"] "law" (defScope (top 28)) fa cdv A outer s H E) (WD E)) :
    GSs (cxOf (L2.CX P w) P w K mg base ["script", "tape", "k", "out", "found", "pieces", "choice", "more", "text", "place", "starts", "number", "end", "before", "start"] "law" (defScope (top 28)) fa cdv A outer s H E) (WD E) (defBody (top 28)) (b_law Γ) := by
  have nd : (["script", "tape", "k", "out", "found", "pieces", "choice", "more", "text", "place", "starts", "number", "end", "before", "start"] : List Str).Nodup := s_law.nd
  have hu : (cxOf (L2.CX P w) P w K mg base ["script", "tape", "k", "out", "found", "pieces", "choice", "more", "text", "place", "starts", "number", "end", "before", "start"] "law" (defScope (top 28)) fa cdv A outer s H E).A.units + 200 < cLine := by
    have := hr.un
    show (A.deeper (envOfC "law" (defScope (top 28)) s.heap.objs.size fa cdv)).units + 200 < cLine
    omega
  have hu1 : (cxOf (L2.CX P w) P w K mg base ["script", "tape", "k", "out", "found", "pieces", "choice", "more", "text", "place", "starts", "number", "end", "before", "start"] "law" (defScope (top 28)) fa cdv A outer s H E).A.units + 1 < cLine := by omega
  exact (gs_cons (gs_set 1 (ge_fn (F 3 _ _ rfl) (hr.mono (Nat.le_succ _)) tk (gan_cons (ge_var 0) gan_nil)) nd)
    (gs_cons (gs_for hp rfl (gi_range1 ge_int fc.f_range) (gg_name 2 nd) (gs_cons (gs_if (gt_not (gt_tru (ge_fn (F 16 _ _ rfl) (hr.mono (Nat.le_succ _)) tk (gan_cons (ge_var 1) gan_nil)))) (gs_cons (gs_ret ge_bl)
    gs_nil) gs_nil)
    gs_nil))
    (gs_cons (gs_set 3 (ge_disp (gps_cons (ge_str [116, 101, 120, 116]) (ge_str []) gps_nil)) nd)
    (gs_cons (gs_expr (ge_fn (F 12 _ _ rfl) (hr.mono (Nat.le_succ _)) tk (gan_cons (ge_var 1) (gan_cons (ge_var 3) (gan_cons (ge_fn (F 9 _ _ rfl) (hr.mono (Nat.le_succ _)) tk (gan_cons (ge_var 1) (gan_cons (ge_tup (ga_cons ge_int (ga_cons (ge_tup (ga_cons (ge_str [97]) (ga_cons (ge_str [98]) ga_nil))) ga_nil))) (gan_cons (ge_lst (ga_cons (ge_str [120]) (ga_cons (ge_str [121]) ga_nil))) (gan_cons (ge_lst (ga_cons (ge_str [88]) ga_nil)) (gan_cons ge_int gan_nil)))))) (gan_cons ge_int gan_nil))))))
    (gs_cons (gs_set 4 (ge_fn (F 15 _ _ rfl) (hr.mono (Nat.le_succ _)) tk (gan_cons (ge_ix hu1 (ge_var 3) (ge_str [116, 101, 120, 116])) gan_nil)) nd)
    (gs_cons (gs_if (GW.pt (gw_or (gt_cmp og_notN (ge_fn (F 13 _ _ rfl) (hr.mono (Nat.le_succ _)) tk (gan_cons (ge_ix hu1 (ge_var 3) (ge_str [116, 101, 120, 116])) gan_nil)) ge_non) (gw_or1 (gt_cmp og_isN (ge_fn (F 13 _ _ rfl) (hr.mono (Nat.le_succ _)) tk (gan_cons (ge_cut (ge_ix hu1 (ge_var 3) (ge_str [116, 101, 120, 116])) go_none (go_some (ge_ix hu1 (ge_ix hu1 (ge_var 4) (ge_neg ge_int)) ge_int))) gan_nil)) ge_non)))) (gs_cons (gs_ret ge_bl)
    gs_nil) gs_nil)
    (gs_cons (gs_set 2 (ge_fn (F 4 _ _ rfl) (hr.mono (Nat.le_succ _)) tk (gan_cons (ge_var 1) (gan_cons (ge_len (ge_var 4) fc.f_len) gan_nil))) nd)
    (gs_cons (gs_setLc fin_frozen 5 [("start", 14), ("end", 12)] rfl nd (gi_seq (ge_var 4)) (fun _ _ _ _ _ => (gc_tup rfl (gcs_cons (gc_name 14 nd) (gcs_cons (gc_name 12 nd) gcs_nil)))) (fun _ _ _ _ _ => gts_nil) (fun _ _ _ _ _ => (ge_cut (ge_ix hu1 (ge_var 3) (ge_str [116, 101, 120, 116])) (go_some (ge_var 14)) (go_some (ge_var 12)))))
    (gs_cons (gs_set 6 (ge_fn (F 4 _ _ rfl) (hr.mono (Nat.le_succ _)) tk (gan_cons (ge_var 1) (gan_cons ge_int gan_nil))) nd)
    (gs_cons (gs_set 7 (ge_fn (F 14 _ _ rfl) (hr.mono (Nat.le_succ _)) tk (gan_cons (ge_var 1) gan_nil)) nd)
    (gs_cons (gs_if (gt_cmp (og_eq hu) (ge_var 6) ge_int) (gs_cons (gs_set 5 (ge_cut (ge_var 5) go_none (go_some (ge_var 2))) nd)
    gs_nil) (gs_cons (gs_if (gt_cmp (og_eq hu) (ge_var 6) ge_int) (gs_cons (gs_set 5 (ge_bin og_add (ge_cut (ge_var 5) go_none (go_some (ge_var 2))) (ge_cut (ge_var 5) (go_some (ge_bin og_add (ge_var 2) ge_int)) go_none)) nd)
    gs_nil) (gs_cons (gs_if (gt_cmp (og_eq hu) (ge_var 6) ge_int) (gs_cons (gs_set 5 (ge_var 7) nd)
    gs_nil) (gs_cons (gs_set 5 (ge_bin og_add (ge_bin og_add (ge_cut (ge_var 5) go_none (go_some (ge_var 2))) (ge_cut (ge_var 7) go_none (go_some (ge_bin og_add ge_int (ge_fn (F 4 _ _ rfl) (hr.mono (Nat.le_succ _)) tk (gan_cons (ge_var 1) (gan_cons ge_int gan_nil))))))) (ge_cut (ge_var 5) (go_some (ge_bin og_add (ge_var 2) (ge_fn (F 4 _ _ rfl) (hr.mono (Nat.le_succ _)) tk (gan_cons (ge_var 1) (gan_cons ge_int gan_nil))))) go_none)) nd)
    gs_nil))
    gs_nil))
    gs_nil))
    (gs_cons (gs_set 8 (ge_join (ge_str [32]) (ge_var 5)) nd)
    (gs_cons (gs_set 9 (ge_fn (F 13 _ _ rfl) (hr.mono (Nat.le_succ _)) tk (gan_cons (ge_var 8) gan_nil)) nd)
    (gs_cons (gs_set 4 (ge_fn (F 15 _ _ rfl) (hr.mono (Nat.le_succ _)) tk (gan_cons (ge_var 8) gan_nil)) nd)
    (gs_cons (gs_if (GW.pt (gw_or (gt_cmp og_isN (ge_var 9) ge_non) (gw_or1 (gt_cmp (og_eq hu) (ge_var 4) (ge_lst ga_nil))))) (gs_cons (gs_ret (ge_or (ge_and (ge_cmp og_isN (ge_var 9) ge_non) (ge_one (ge_cmp (og_ne hu) (ge_var 4) (ge_lst ga_nil)))) (ge_one (ge_and (ge_cmp (og_eq hu) (ge_var 4) (ge_lst ga_nil)) (ge_one (ge_cmp (og_eq hu) (ge_var 9) ge_int))))))
    gs_nil) gs_nil)
    (gs_cons (gs_setLc fin_frozen 10 [("start", 14), ("end", 12)] rfl nd (gi_seq (ge_var 4)) (fun _ _ _ _ _ => (gc_tup rfl (gcs_cons (gc_name 14 nd) (gcs_cons (gc_name 12 nd) gcs_nil)))) (fun _ _ _ _ _ => gts_nil) (fun _ _ _ _ _ => (ge_var 14)))
    (gs_cons (gs_if (GW.pt (gw_and (gt_cmp (og_eq hu) (ge_var 9) (ge_ix hu1 (ge_ix hu1 (ge_var 4) (ge_neg ge_int)) ge_int)) (gw_and1 (gt_cmp (og_notIn hu) (ge_var 9) (ge_var 10))))) (gs_cons (gs_ret ge_bl)
    gs_nil) gs_nil)
    (gs_cons (gs_if (gt_cmp (og_notIn hu) (ge_var 9) (ge_var 10)) (gs_cons (gs_ret ge_bl)
    gs_nil) gs_nil)
    (gs_cons (gs_set 11 (ge_index (ge_var 10) (ge_var 9)) nd)
    (gs_cons (gs_if (gt_cmp og_gt (ge_var 11) ge_int) (gs_cons (gs_set 12 (ge_ix hu1 (ge_ix hu1 (ge_var 4) (ge_bin og_sub (ge_var 11) ge_int)) ge_int) nd)
    (gs_cons (gs_set 13 (ge_fn (F 13 _ _ rfl) (hr.mono (Nat.le_succ _)) tk (gan_cons (ge_cut (ge_var 8) go_none (go_some (ge_var 12))) gan_nil)) nd)
    (gs_cons (gs_if (GW.pt (gw_and (gt_cmp og_notN (ge_var 13) ge_non) (gw_and1 (gt_cmp (og_ne hu) (ge_var 13) (ge_var 12))))) (gs_cons (gs_ret ge_bl)
    gs_nil) gs_nil)
    gs_nil))) gs_nil)
    (gs_cons (gs_ret (ge_fn (F 7 _ _ rfl) (hr.mono (Nat.le_succ _)) tk (gan_cons (ge_fn (F 13 _ _ rfl) (hr.mono (Nat.le_succ _)) tk (gan_cons (ge_cut (ge_var 8) go_none (go_some (ge_ix hu1 (ge_ix hu1 (ge_var 4) (ge_var 11)) ge_int))) gan_nil)) (gan_cons (ge_var 9) gan_nil))))
    gs_nil)))))))))))))))))))))
theorem k_law {fd : FuncData} (F : AllK P w K mg base sig k Γ) (M : AllM P w K mg base msig 18 k Γ) (k1 : 1 ≤ k) (IO_SyntaxProblem : InitOk P w K mg base (clsA K [83, 121, 110, 116, 97, 120, 80, 114, 111, 98, 108, 101, 109]) (He.ma K (clsA K [83, 121, 110, 116, 97, 120, 80, 114, 111, 98, 108, 101, 109]) (sOf [95, 95, 105, 110, 105, 116, 95, 95])) ["self", "start"] "start") (fc : Fc K mg) (U : FnP K "law" 28 fd) : FnOk P w K mg base (L2.CX P w) (k + 2) (He.ga K "law") fd ["script"] (spG K (d_law Γ) 1) :=
  fn_G (k := k + 1) U s_law (fun args h _ => .inl rfl) fun cdv A outer s H E hr hp tk => w_law F M k1 IO_SyntaxProblem fc hr hp tk
theorem s_Reader_init : FnScope ["self", "text"] ["self", "text"] (defScope (mth 11 0)) := ⟨rfl, rfl, rfl, by decide +kernel, rfl, by decide +kernel, by decide +kernel⟩
theorem w_Reader_init (F : AllK P w K mg base sig k Γ) (M : AllM P w K mg base msig 18 k Γ) (k1 : 1 ≤ k) (IO_SyntaxProblem : InitOk P w K mg base (clsA K [83, 121, 110, 116, 97, 120, 80, 114, 111, 98, 108, 101, 109]) (He.ma K (clsA K [83, 121, 110, 116, 97, 120, 80, 114, 111, 98, 108, 101, 109]) (sOf [95, 95, 105, 110, 105, 116, 95, 95])) ["self", "start"] "start") (fc : Fc K mg) {fa : Addr} {cdv : Value} {A : Around} {outer : List PySem.Env} {s : Shared} {H : Hp} {E : XK} (hr : Room (k + 1) (A.deeper (envOfC "Reader.__init__" (defScope (mth 11 0)) s.heap.objs.size fa cdv)))
    (hp : PassesOwn (model P w) (A.deeper (envOfC "Reader.__init__" (defScope (mth 11 0)) s.heap.objs.size fa cdv)) (envOfC "Reader.__init__" (defScope (mth 11 0)) s.heap.objs.size fa cdv) (cxOf (L2.CX P w) P w K mg base ["self", "text"] "Reader.__init__" (defScope (mth 11 0)) fa cdv A outer s H E).xe)
    (tk : Takes (cxOf (L2.CX P w) P w K mg base ["self", "text"] "Reader.__init__" (defScope (mth 11 0)) fa cdv A outer s H E) (WD E)) :
    GSs (cxOf (L2.CX P w) P w K mg base ["self", "text"] "Reader.__init__" (defScope (mth 11 0)) fa cdv A outer s H E) (WD E) (defBody (mth 11 0)) (b_Reader_init Γ) := by
  have nd : (["self", "text"] : List Str).Nodup := s_Reader_init.nd
  have hu : (cxOf (L2.CX P w) P w K mg base ["self", "text"] "Reader.__init__" (defScope (mth 11 0)) fa cdv A outer s H E).A.units + 200 < cLine := by
    have := hr.un
    show (A.deeper (envOfC "Reader.__init__" (defScope (mth 11 0)) s.heap.objs.size fa cdv)).units + 200 < cLine
    omega
  have hu1 : (cxOf (L2.CX P w) P w K mg base ["self", "text"] "Reader.__init__" (defScope (mth 11 0)) fa cdv A outer s H E).A.units + 1 < cLine := by omega
  exact (gs_cons (gs_fld [82, 101, 97, 100, 101, 114] [102, 111, 117, 110, 100] (ge_fn (F 1 _ _ rfl) (hr.mono (Nat.le_succ _)) tk (gan_cons (ge_var 1) gan_nil)) (ge_var 0) fc.k_Reader fc.n_Reader_found)
    (gs_cons (gs_fld [82, 101, 97, 100, 101, 114] [97, 116] ge_int (ge_var 0) fc.k_Reader fc.n_Reader_at)
    gs_nil))
theorem k_Reader_init {fd : FuncData} (F : AllK P w K mg base sig k Γ) (M : AllM P w K mg base msig 18 k Γ) (k1 : 1 ≤ k) (IO_SyntaxProblem : InitOk P w K mg base (clsA K [83, 121, 110, 116, 97, 120, 80, 114, 111, 98, 108, 101, 109]) (He.ma K (clsA K [83, 121, 110, 116, 97, 120, 80, 114, 111, 98, 108, 101, 109]) (sOf [95, 95, 105, 110, 105, 116, 95, 95])) ["self", "start"] "start") (fc : Fc K mg) (U : FunD K "__init__" "Reader.__init__" (defArgs (mth 11 0)) (defBody (mth 11 0)) (defScope (mth 11 0)) [] [] (He.ma K (clsA K [82, 101, 97, 100, 101, 114]) (sOf [95, 95, 105, 110, 105, 116, 95, 95])) fd) : FnOk P w K mg base (L2.CX P w) (k + 2) (He.ma K (clsA K [82, 101, 97, 100, 101, 114]) (sOf [95, 95, 105, 110, 105, 116, 95, 95])) fd ["self", "text"] (spG K (d_Reader_init Γ) 2) :=
  fn_G (k := k + 1) U s_Reader_init (fun args h _ => .inl rfl) fun cdv A outer s H E hr hp tk => w_Reader_init F M k1 IO_SyntaxProblem fc hr hp tk
theorem s_Reader_need : FnScope ["self", "condition"] ["self", "condition"] (defScope (mth 11 1)) := ⟨rfl, rfl, rfl, by decide +kernel, rfl, by decide +kernel, by decide +kernel⟩
theorem w_Reader_need (F : AllK P w K mg base sig k Γ) (M : AllM P w K mg base msig 18 k Γ) (k1 : 1 ≤ k) (IO_SyntaxProblem : InitOk P w K mg base (clsA K [83, 121, 110, 116, 97, 120, 80, 114, 111, 98, 108, 101, 109]) (He.ma K (clsA K [83, 121, 110, 116, 97, 120, 80, 114, 111, 98, 108, 101, 109]) (sOf [95, 95, 105, 110, 105, 116, 95, 95])) ["self", "start"] "start") (fc : Fc K mg) {fa : Addr} {cdv : Value} {A : Around} {outer : List PySem.Env} {s : Shared} {H : Hp} {E : XK} (hr : Room (k + 1) (A.deeper (envOfC "Reader.need" (defScope (mth 11 1)) s.heap.objs.size fa cdv)))
    (hp : PassesOwn (model P w) (A.deeper (envOfC "Reader.need" (defScope (mth 11 1)) s.heap.objs.size fa cdv)) (envOfC "Reader.need" (defScope (mth 11 1)) s.heap.objs.size fa cdv) (cxOf (L2.CX P w) P w K mg base ["self", "condition"] "Reader.need" (defScope (mth 11 1)) fa cdv A outer s H E).xe)
    (tk : Takes (cxOf (L2.CX P w) P w K mg base ["self", "condition"] "Reader.need" (defScope (mth 11 1)) fa cdv A outer s H E) (WD E)) :
    GSs (cxOf (L2.CX P w) P w K mg base ["self", "condition"] "Reader.need" (defScope (mth 11 1)) fa cdv A outer s H E) (WD E) (defBody (mth 11 1)) (b_Reader_need Γ) := by
  have nd : (["self", "condition"] : List Str).Nodup := s_Reader_need.nd
  have hu : (cxOf (L2.CX P w) P w K mg base ["self", "condition"] "Reader.need" (defScope (mth 11 1)) fa cdv A outer s H E).A.units + 200 < cLine := by
    have := hr.un
    show (A.deeper (envOfC "Reader.need" (defScope (mth 11 1)) s.heap.objs.size fa cdv)).units + 200 < cLine
    omega
  have hu1 : (cxOf (L2.CX P w) P w K mg base ["self", "condition"] "Reader.need" (defScope (mth 11 1)) fa cdv A outer s H E).A.units + 1 < cLine := by omega
  exact (gs_cons (gs_if (gt_tru (ge_var 1)) (gs_cons gs_retN
    gs_nil) gs_nil)
    (gs_cons (gs_if (gt_cmp og_lt (ge_fld [82, 101, 97, 100, 101, 114] [97, 116] (ge_var 0) fc.k_Reader fc.n_Reader_at) (ge_len (ge_fld [82, 101, 97, 100, 101, 114] [102, 111, 117, 110, 100] (ge_var 0) fc.k_Reader fc.n_Reader_found) fc.f_len)) (gs_cons (gs_raiseI [83, 121, 110, 116, 97, 120, 80, 114, 111, 98, 108, 101, 109] [115, 116, 97, 114, 116] rfl tk fc.oc_SyntaxProblem fc.oi_SyntaxProblem IO_SyntaxProblem (hr.mono (Nat.succ_le_succ k1)) fc.og_SyntaxProblem (ge_ix hu1 (ge_ix hu1 (ge_fld [82, 101, 97, 100, 101, 114] [102, 111, 117, 110, 100] (ge_var 0) fc.k_Reader fc.n_Reader_found) (ge_fld [82, 101, 97, 100, 101, 114] [97, 116] (ge_var 0) fc.k_Reader fc.n_Reader_at)) ge_int))
    gs_nil) gs_nil)
    (gs_cons (gs_if (gt_not (gt_tru (ge_fld [82, 101, 97, 100, 101, 114] [102, 111, 117, 110, 100] (ge_var 0) fc.k_Reader fc.n_Reader_found))) (gs_cons (gs_raiseI [83, 121, 110, 116, 97, 120, 80, 114, 111, 98, 108, 101, 109] [115, 116, 97, 114, 116] rfl tk fc.oc_SyntaxProblem fc.oi_SyntaxProblem IO_SyntaxProblem (hr.mono (Nat.succ_le_succ k1)) fc.og_SyntaxProblem ge_int)
    gs_nil) gs_nil)
    (gs_cons (gs_raiseI [83, 121, 110, 116, 97, 120, 80, 114, 111, 98, 108, 101, 109] [115, 116, 97, 114, 116] rfl tk fc.oc_SyntaxProblem fc.oi_SyntaxProblem IO_SyntaxProblem (hr.mono (Nat.succ_le_succ k1)) fc.og_SyntaxProblem (ge_bin og_add (ge_ix hu1 (ge_ix hu1 (ge_fld [82, 101, 97, 100, 101, 114] [102, 111, 117, 110, 100] (ge_var 0) fc.k_Reader fc.n_Reader_found) (ge_neg ge_int)) ge_int) (ge_len (ge_ix hu1 (ge_ix hu1 (ge_fld [82, 101, 97, 100, 101, 114] [102, 111, 117, 110, 100] (ge_var 0) fc.k_Reader fc.n_Reader_found) (ge_neg ge_int)) ge_int) fc.f_len)))
    gs_nil))))
theorem k_Reader_need {fd : FuncData} (F : AllK P w K mg base sig k Γ) (M : AllM P w K mg base msig 18 k Γ) (k1 : 1 ≤ k) (IO_SyntaxProblem : InitOk P w K mg base (clsA K [83, 121, 110, 116, 97, 120, 80, 114, 111, 98, 108, 101, 109]) (He.ma K (clsA K [83, 121, 110, 116, 97, 120, 80, 114, 111, 98, 108, 101, 109]) (sOf [95, 95, 105, 110, 105, 116, 95, 95])) ["self", "start"] "start") (fc : Fc K mg) (U : FunD K "need" "Reader.need" (defArgs (mth 11 1)) (defBody (mth 11 1)) (defScope (mth 11 1)) [] [] (He.ma K (clsA K [82, 101, 97, 100, 101, 114]) (sOf [110, 101, 101, 100])) fd) : FnOk P w K mg base (L2.CX P w) (k + 2) (He.ma K (clsA K [82, 101, 97, 100, 101, 114]) (sOf [110, 101, 101, 100])) fd ["self", "condition"] (spG K (d_Reader_need Γ) 2) :=
  fn_G (k := k + 1) U s_Reader_need (fun args h _ => .inl rfl) fun cdv A outer s H E hr hp tk => w_Reader_need F M k1 IO_SyntaxProblem fc hr hp tk
theorem s_Reader_fixed : FnScope ["self"] ["self"] (defScope (mth 11 2)) := ⟨rfl, rfl, rfl, by decide +kernel, rfl, by decide +kernel, by decide +kernel⟩
theorem w_Reader_fixed (F : AllK P w K mg base sig k Γ) (M : AllM P w K mg base msig 18 k Γ) (k1 : 1 ≤ k) (IO_SyntaxProblem : InitOk P w K mg base (clsA K [83, 121, 110, 116, 97, 120, 80, 114, 111, 98, 108, 101, 109]) (He.ma K (clsA K [83, 121, 110, 116, 97, 120, 80, 114, 111, 98, 108, 101, 109]) (sOf [95, 95, 105, 110, 105, 116, 95, 95])) ["self", "start"] "start") (fc : Fc K mg) {fa : Addr} {cdv : Value} {A : Around} {outer : List PySem.Env} {s : Shared} {H : Hp} {E : XK} (hr : Room (k + 1) (A.deeper (envOfC "Reader.fixed" (defScope (mth 11 2)) s.heap.objs.size fa cdv)))
    (hp : PassesOwn (model P w) (A.deeper (envOfC "Reader.fixed" (defScope (mth 11 2)) s.heap.objs.size fa cdv)) (envOfC "Reader.fixed" (defScope (mth 11 2)) s.heap.objs.size fa cdv) (cxOf (L2.CX P w) P w K mg base ["self"] "Reader.fixed" (defScope (mth 11 2)) fa cdv A outer s H E).xe)
    (tk : Takes (cxOf (L2.CX P w) P w K mg base ["self"] "Reader.fixed" (defScope (mth 11 2)) fa cdv A outer s H E) (WD E)) :
    GSs (cxOf (L2.CX P w) P w K mg base ["self"] "Reader.fixed" (defScope (mth 11 2)) fa cdv A outer s H E) (WD E) (defBody (mth 11 2)) (b_Reader_fixed Γ) := by
  have nd : (["self"] : List Str).Nodup := s_Reader_fixed.nd
  have hu : (cxOf (L2.CX P w) P w K mg base ["self"] "Reader.fixed" (defScope (mth 11 2)) fa cdv A outer s H E).A.units + 200 < cLine := by
    have := hr.un
    show (A.deeper (envOfC "Reader.fixed" (defScope (mth 11 2)) s.heap.objs.size fa cdv)).units + 200 < cLine
    omega
  have hu1 : (cxOf (L2.CX P w) P w K mg base ["self"] "Reader.fixed" (defScope (mth 11 2)) fa cdv A outer s H E).A.units + 1 < cLine := by omega
  exact (gs_cons (gs_if (GW.pt (gw_and (gt_cmp og_lt (ge_fld [82, 101, 97, 100, 101, 114] [97, 116] (ge_var 0) fc.k_Reader fc.n_Reader_at) (ge_len (ge_fld [82, 101, 97, 100, 101, 114] [102, 111, 117, 110, 100] (ge_var 0) fc.k_Reader fc.n_Reader_found) fc.f_len)) (gw_and1 (gt_cmp (og_in hu) (ge_ix hu1 (ge_ix hu1 (ge_fld [82, 101, 97, 100, 101, 114] [102, 111, 117, 110, 100] (ge_var 0) fc.k_Reader fc.n_Reader_found) (ge_fld [82, 101, 97, 100, 101, 114] [97, 116] (ge_var 0) fc.k_Reader fc.n_Reader_at)) ge_int) (ge_tup (ga_cons (ge_str [119, 111, 114, 100]) (ga_cons (ge_str [115, 105, 103, 110]) ga_nil))))))) (gs_cons (gs_ret (ge_ix hu1 (ge_ix hu1 (ge_fld [82, 101, 97, 100, 101, 114] [102, 111, 117, 110, 100] (ge_var 0) fc.k_Reader fc.n_Reader_found) (ge_fld [82, 101, 97, 100, 101, 114] [97, 116] (ge_var 0) fc.k_Reader fc.n_Reader_at)) ge_int))
    gs_nil) gs_nil)
    (gs_cons (gs_ret (ge_str []))
    gs_nil))
theorem k_Reader_fixed {fd : FuncData} (F : AllK P w K mg base sig k Γ) (M : AllM P w K mg base msig 18 k Γ) (k1 : 1 ≤ k) (IO_SyntaxProblem : InitOk P w K mg base (clsA K [83, 121, 110, 116, 97, 120, 80, 114, 111, 98, 108, 101, 109]) (He.ma K (clsA K [83, 121, 110, 116, 97, 120, 80, 114, 111, 98, 108, 101, 109]) (sOf [95, 95, 105, 110, 105, 116, 95, 95])) ["self", "start"] "start") (fc : Fc K mg) (U : FunD K "fixed" "Reader.fixed" (defArgs (mth 11 2)) (defBody (mth 11 2)) (defScope (mth 11 2)) [] [] (He.ma K (clsA K [82, 101, 97, 100, 101, 114]) (sOf [102, 105, 120, 101, 100])) fd) : FnOk P w K mg base (L2.CX P w) (k + 2) (He.ma K (clsA K [82, 101, 97, 100, 101, 114]) (sOf [102, 105, 120, 101, 100])) fd ["self"] (spG K (d_Reader_fixed Γ) 1) :=
  fn_G (k := k + 1) U s_Reader_fixed (fun args h _ => .inl rfl) fun cdv A outer s H E hr hp tk => w_Reader_fixed F M k1 IO_SyntaxProblem fc hr hp tk
theorem s_Reader_take : FnScope ["self", "expected"] ["self", "expected"] (defScope (mth 11 3)) := ⟨rfl, rfl, rfl, by decide +kernel, rfl, by decide +kernel, by decide +kernel⟩
theorem w_Reader_take (F : AllK P w K mg base sig k Γ) (M : AllM P w K mg base msig 18 k Γ) (k1 : 1 ≤ k) (IO_SyntaxProblem : InitOk P w K mg base (clsA K [83, 121, 110, 116, 97, 120, 80, 114, 111, 98, 108, 101, 109]) (He.ma K (clsA K [83, 121, 110, 116, 97, 120, 80, 114, 111, 98, 108, 101, 109]) (sOf [95, 95, 105, 110, 105, 116, 95, 95])) ["self", "start"] "start") (fc : Fc K mg) {fa : Addr} {cdv : Value} {A : Around} {outer : List PySem.Env} {s : Shared} {H : Hp} {E : XK} (hr : Room (k + 1) (A.deeper (envOfC "Reader.take" (defScope (mth 11 3)) s.heap.objs.size fa cdv)))
    (hp : PassesOwn (model P w) (A.deeper (envOfC "Reader.take" (defScope (mth 11 3)) s.heap.objs.size fa cdv)) (envOfC "Reader.take" (defScope (mth 11 3)) s.heap.objs.size fa cdv) (cxOf (L2.CX P w) P w K mg base ["self", "expected"] "Reader.take" (defScope (mth 11 3)) fa cdv A outer s H E).xe)
    (tk : Takes (cxOf (L2.CX P w) P w K mg base ["self", "expected"] "Reader.take" (defScope (mth 11 3)) fa cdv A outer s H E) (WD E)) :
    GSs (cxOf (L2.CX P w) P w K mg base ["self", "expected"] "Reader.take" (defScope (mth 11 3)) fa cdv A outer s H E) (WD E) (defBody (mth 11 3)) (b_Reader_take Γ) := by
  have nd : (["self", "expected"] : List Str).Nodup := s_Reader_take.nd
  have hu : (cxOf (L2.CX P w) P w K mg base ["self", "expected"] "Reader.take" (defScope (mth 11 3)) fa cdv A outer s H E).A.units + 200 < cLine := by
    have := hr.un
    show (A.deeper (envOfC "Reader.take" (defScope (mth 11 3)) s.heap.objs.size fa cdv)).units + 200 < cLine
    omega
  have hu1 : (cxOf (L2.CX P w) P w K mg base ["self", "expected"] "Reader.take" (defScope (mth 11 3)) fa cdv A outer s H E).A.units + 1 < cLine := by omega
  exact (gs_cons (gs_expr (ge_mth [82, 101, 97, 100, 101, 114] [110, 101, 101, 100] (ge_var 0) fc.k_Reader (M 1 _ _ _ rfl) (hr.mono (Nat.le_succ _)) tk (gan_cons (ge_cmp (og_eq hu) (ge_mth0 [82, 101, 97, 100, 101, 114] [102, 105, 120, 101, 100] (ge_var 0) fc.k_Reader (M 2 _ _ _ rfl) (hr.mono (Nat.le_succ _)) tk) (ge_var 1)) gan_nil)))
    (gs_cons (gs_fldaug [82, 101, 97, 100, 101, 114] [97, 116] (ge_var 0) ge_int fc.k_Reader fc.n_Reader_at)
    gs_nil))
theorem k_Reader_take {fd : FuncData} (F : AllK P w K mg base sig k Γ) (M : AllM P w K mg base msig 18 k Γ) (k1 : 1 ≤ k) (IO_SyntaxProblem : InitOk P w K mg base (clsA K [83, 121, 110, 116, 97, 120, 80, 114, 111, 98, 108, 101, 109]) (He.ma K (clsA K [83, 121, 110, 116, 97, 120, 80, 114, 111, 98, 108, 101, 109]) (sOf [95, 95, 105, 110, 105, 116, 95, 95])) ["self", "start"] "start") (fc : Fc K mg) (U : FunD K "take" "Reader.take" (defArgs (mth 11 3)) (defBody (mth 11 3)) (defScope (mth 11 3)) [] [] (He.ma K (clsA K [82, 101, 97, 100, 101, 114]) (sOf [116, 97, 107, 101])) fd) : FnOk P w K mg base (L2.CX P w) (k + 2) (He.ma K (clsA K [82, 101, 97, 100, 101, 114]) (sOf [116, 97, 107, 101])) fd ["self", "expected"] (spG K (d_Reader_take Γ) 2) :=
  fn_G (k := k + 1) U s_Reader_take (fun args h _ => .inl rfl) fun cdv A outer s H E hr hp tk => w_Reader_take F M k1 IO_SyntaxProblem fc hr hp tk
theorem s_Reader_name : FnScope ["self", "sort", "name"] ["self", "sort"] (defScope (mth 11 4)) := ⟨rfl, rfl, rfl, by decide +kernel, rfl, by decide +kernel, by decide +kernel⟩
theorem w_Reader_name (F : AllK P w K mg base sig k Γ) (M : AllM P w K mg base msig 18 k Γ) (k1 : 1 ≤ k) (IO_SyntaxProblem : InitOk P w K mg base (clsA K [83, 121, 110, 116, 97, 120, 80, 114, 111, 98, 108, 101, 109]) (He.ma K (clsA K [83, 121, 110, 116, 97, 120, 80, 114, 111, 98, 108, 101, 109]) (sOf [95, 95, 105, 110, 105, 116, 95, 95])) ["self", "start"] "start") (fc : Fc K mg) {fa : Addr} {cdv : Value} {A : Around} {outer : List PySem.Env} {s : Shared} {H : Hp} {E : XK} (hr : Room (k + 1) (A.deeper (envOfC "Reader.name" (defScope (mth 11 4)) s.heap.objs.size fa cdv)))
    (hp : PassesOwn (model P w) (A.deeper (envOfC "Reader.name" (defScope (mth 11 4)) s.heap.objs.size fa cdv)) (envOfC "Reader.name" (defScope (mth 11 4)) s.heap.objs.size fa cdv) (cxOf (L2.CX P w) P w K mg base ["self", "sort", "name"] "Reader.name" (defScope (mth 11 4)) fa cdv A outer s H E).xe)
    (tk : Takes (cxOf (L2.CX P w) P w K mg base ["self", "sort", "name"] "Reader.name" (defScope (mth 11 4)) fa cdv A outer s H E) (WD E)) :
    GSs (cxOf (L2.CX P w) P w K mg base ["self", "sort", "name"] "Reader.name" (defScope (mth 11 4)) fa cdv A outer s H E) (WD E) (defBody (mth 11 4)) (b_Reader_name Γ) := by
  have nd : (["self", "sort", "name"] : List Str).Nodup := s_Reader_name.nd
  have hu : (cxOf (L2.CX P w) P w K mg base ["self", "sort", "name"] "Reader.name" (defScope (mth 11 4)) fa cdv A outer s H E).A.units + 200 < cLine := by
    have := hr.un
    show (A.deeper (envOfC "Reader.name" (defScope (mth 11 4)) s.heap.objs.size fa cdv)).units + 200 < cLine
    omega
  have hu1 : (cxOf (L2.CX P w) P w K mg base ["self", "sort", "name"] "Reader.name" (defScope (mth 11 4)) fa cdv A outer s H E).A.units + 1 < cLine := by omega
  exact (gs_cons (gs_expr (ge_mth [82, 101, 97, 100, 101, 114] [110, 101, 101, 100] (ge_var 0) fc.k_Reader (M 1 _ _ _ rfl) (hr.mono (Nat.le_succ _)) tk (gan_cons (ge_and (ge_cmp og_lt (ge_fld [82, 101, 97, 100, 101, 114] [97, 116] (ge_var 0) fc.k_Reader fc.n_Reader_at) (ge_len (ge_fld [82, 101, 97, 100, 101, 114] [102, 111, 117, 110, 100] (ge_var 0) fc.k_Reader fc.n_Reader_found) fc.f_len)) (ge_one (ge_cmp (og_eq hu) (ge_ix hu1 (ge_ix hu1 (ge_fld [82, 101, 97, 100, 101, 114] [102, 111, 117, 110, 100] (ge_var 0) fc.k_Reader fc.n_Reader_found) (ge_fld [82, 101, 97, 100, 101, 114] [97, 116] (ge_var 0) fc.k_Reader fc.n_Reader_at)) ge_int) (ge_str [110, 97, 109, 101])))) gan_nil)))
    (gs_cons (gs_set 2 (ge_ix hu1 (ge_ix hu1 (ge_fld [82, 101, 97, 100, 101, 114] [102, 111, 117, 110, 100] (ge_var 0) fc.k_Reader fc.n_Reader_found) (ge_fld [82, 101, 97, 100, 101, 114] [97, 116] (ge_var 0) fc.k_Reader fc.n_Reader_at)) ge_int) nd)
    (gs_cons (gs_if (gt_cmp (og_eq hu) (ge_var 1) (ge_str [108, 97, 98, 101, 108])) (gs_cons (gs_expr (ge_mth [82, 101, 97, 100, 101, 114] [110, 101, 101, 100] (ge_var 0) fc.k_Reader (M 1 _ _ _ rfl) (hr.mono (Nat.le_succ _)) tk (gan_cons (ge_and (ge_cmp (og_eq hu) (ge_len (ge_var 2) fc.f_len) ge_int) (ge_one (ge_not (ge_fn (F 0 _ _ rfl) (hr.mono (Nat.le_succ _)) tk (gan_cons (ge_var 2) gan_nil))))) gan_nil)))
    gs_nil) (gs_cons (gs_if (gt_cmp (og_ne hu) (ge_var 1) (ge_str [97, 110, 121])) (gs_cons (gs_expr (ge_mth [82, 101, 97, 100, 101, 114] [110, 101, 101, 100] (ge_var 0) fc.k_Reader (M 1 _ _ _ rfl) (hr.mono (Nat.le_succ _)) tk (gan_cons (ge_cmp (og_eq hu) (ge_fn (F 0 _ _ rfl) (hr.mono (Nat.le_succ _)) tk (gan_cons (ge_var 2) gan_nil)) (ge_cmp (og_eq hu) (ge_var 1) (ge_str [115, 101, 116]))) gan_nil)))
    gs_nil) gs_nil)
    gs_nil))
    (gs_cons (gs_fldaug [82, 101, 97, 100, 101, 114] [97, 116] (ge_var 0) ge_int fc.k_Reader fc.n_Reader_at)
    (gs_cons (gs_ret (ge_var 2))
    gs_nil)))))
theorem k_Reader_name {fd : FuncData} (F : AllK P w K mg base sig k Γ) (M : AllM P w K mg base msig 18 k Γ) (k1 : 1 ≤ k) (IO_SyntaxProblem : InitOk P w K mg base (clsA K [83, 121, 110, 116, 97, 120, 80, 114, 111, 98, 108, 101, 109]) (He.ma K (clsA K [83, 121, 110, 116, 97, 120, 80, 114, 111, 98, 108, 101, 109]) (sOf [95, 95, 105, 110, 105, 116, 95, 95])) ["self", "start"] "start") (fc : Fc K mg) (U : FunD K "name" "Reader.name" (defArgs (mth 11 4)) (defBody (mth 11 4)) (defScope (mth 11 4)) [] [] (He.ma K (clsA K [82, 101, 97, 100, 101, 114]) (sOf [110, 97, 109, 101])) fd) : FnOk P w K mg base (L2.CX P w) (k + 2) (He.ma K (clsA K [82, 101, 97, 100, 101, 114]) (sOf [110, 97, 109, 101])) fd ["self", "sort"] (spG K (d_Reader_name Γ) 2) :=
  fn_G (k := k + 1) U s_Reader_name (fun args h _ => .inl rfl) fun cdv A outer s H E hr hp tk => w_Reader_name F M k1 IO_SyntaxProblem fc hr hp tk
theorem s_Reader_either : FnScope ["self", "left"] ["self"] (defScope (mth 11 5)) := ⟨rfl, rfl, rfl, by decide +kernel, rfl, by decide +kernel, by decide +kernel⟩
theorem w_Reader_either (F : AllK P w K mg base sig k Γ) (M : AllM P w K mg base msig 18 k Γ) (k1 : 1 ≤ k) (IO_SyntaxProblem : InitOk P w K mg base (clsA K [83, 121, 110, 116, 97, 120, 80, 114, 111, 98, 108, 101, 109]) (He.ma K (clsA K [83, 121, 110, 116, 97, 120, 80, 114, 111, 98, 108, 101, 109]) (sOf [95, 95, 105, 110, 105, 116, 95, 95])) ["self", "start"] "start") (fc : Fc K mg) {fa : Addr} {cdv : Value} {A : Around} {outer : List PySem.Env} {s : Shared} {H : Hp} {E : XK} (hr : Room (k + 1) (A.deeper (envOfC "Reader.either" (defScope (mth 11 5)) s.heap.objs.size fa cdv)))
    (hp : PassesOwn (model P w) (A.deeper (envOfC "Reader.either" (defScope (mth 11 5)) s.heap.objs.size fa cdv)) (envOfC "Reader.either" (defScope (mth 11 5)) s.heap.objs.size fa cdv) (cxOf (L2.CX P w) P w K mg base ["self", "left"] "Reader.either" (defScope (mth 11 5)) fa cdv A outer s H E).xe)
    (tk : Takes (cxOf (L2.CX P w) P w K mg base ["self", "left"] "Reader.either" (defScope (mth 11 5)) fa cdv A outer s H E) (WD E)) :
    GSs (cxOf (L2.CX P w) P w K mg base ["self", "left"] "Reader.either" (defScope (mth 11 5)) fa cdv A outer s H E) (WD E) (defBody (mth 11 5)) (b_Reader_either Γ) := by
  have nd : (["self", "left"] : List Str).Nodup := s_Reader_either.nd
  have hu : (cxOf (L2.CX P w) P w K mg base ["self", "left"] "Reader.either" (defScope (mth 11 5)) fa cdv A outer s H E).A.units + 200 < cLine := by
    have := hr.un
    show (A.deeper (envOfC "Reader.either" (defScope (mth 11 5)) s.heap.objs.size fa cdv)).units + 200 < cLine
    omega
  have hu1 : (cxOf (L2.CX P w) P w K mg base ["self", "left"] "Reader.either" (defScope (mth 11 5)) fa cdv A outer s H E).A.units + 1 < cLine := by omega
  exact (gs_cons (gs_set 1 (ge_mth0 [82, 101, 97, 100, 101, 114] [98, 111, 116, 104] (ge_var 0) fc.k_Reader (M 6 _ _ _ rfl) (hr.mono (Nat.le_succ _)) tk) nd)
    (gs_cons (gs_while hp (gt_cmp (og_eq hu) (ge_mth0 [82, 101, 97, 100, 101, 114] [102, 105, 120, 101, 100] (ge_var 0) fc.k_Reader (M 2 _ _ _ rfl) (hr.mono (Nat.le_succ _)) tk) (ge_str [111, 114])) (gs_cons (gs_fldaug [82, 101, 97, 100, 101, 114] [97, 116] (ge_var 0) ge_int fc.k_Reader fc.n_Reader_at)
    (gs_cons (gs_set 1 (ge_tup (ga_cons (ge_str [111, 114]) (ga_cons (ge_var 1) (ga_cons (ge_mth0 [82, 101, 97, 100, 101, 114] [98, 111, 116, 104] (ge_var 0) fc.k_Reader (M 6 _ _ _ rfl) (hr.mono (Nat.le_succ _)) tk) ga_nil)))) nd)
    gs_nil)))
    (gs_cons (gs_ret (ge_var 1))
    gs_nil)))
theorem k_Reader_either {fd : FuncData} (F : AllK P w K mg base sig k Γ) (M : AllM P w K mg base msig 18 k Γ) (k1 : 1 ≤ k) (IO_SyntaxProblem : InitOk P w K mg base (clsA K [83, 121, 110, 116, 97, 120, 80, 114, 111, 98, 108, 101, 109]) (He.ma K (clsA K [83, 121, 110, 116, 97, 120, 80, 114, 111, 98, 108, 101, 109]) (sOf [95, 95, 105, 110, 105, 116, 95, 95])) ["self", "start"] "start") (fc : Fc K mg) (U : FunD K "either" "Reader.either" (defArgs (mth 11 5)) (defBody (mth 11 5)) (defScope (mth 11 5)) [] [] (He.ma K (clsA K [82, 101, 97, 100, 101, 114]) (sOf [101, 105, 116, 104, 101, 114])) fd) : FnOk P w K mg base (L2.CX P w) (k + 2) (He.ma K (clsA K [82, 101, 97, 100, 101, 114]) (sOf [101, 105, 116, 104, 101, 114])) fd ["self"] (spG K (d_Reader_either Γ) 1) :=
  fn_G (k := k + 1) U s_Reader_either (fun args h _ => .inl rfl) fun cdv A outer s H E hr hp tk => w_Reader_either F M k1 IO_SyntaxProblem fc hr hp tk
theorem s_Reader_both : FnScope ["self", "left"] ["self"] (defScope (mth 11 6)) := ⟨rfl, rfl, rfl, by decide +kernel, rfl, by decide +kernel, by decide +kernel⟩
theorem w_Reader_both (F : AllK P w K mg base sig k Γ) (M : AllM P w K mg base msig 18 k Γ) (k1 : 1 ≤ k) (IO_SyntaxProblem : InitOk P w K mg base (clsA K [83, 121, 110, 116, 97, 120, 80, 114, 111, 98, 108, 101, 109]) (He.ma K (clsA K [83, 121, 110, 116, 97, 120, 80, 114, 111, 98, 108, 101, 109]) (sOf [95, 95, 105, 110, 105, 116, 95, 95])) ["self", "start"] "start") (fc : Fc K mg) {fa : Addr} {cdv : Value} {A : Around} {outer : List PySem.Env} {s : Shared} {H : Hp} {E : XK} (hr : Room (k + 1) (A.deeper (envOfC "Reader.both" (defScope (mth 11 6)) s.heap.objs.size fa cdv)))
    (hp : PassesOwn (model P w) (A.deeper (envOfC "Reader.both" (defScope (mth 11 6)) s.heap.objs.size fa cdv)) (envOfC "Reader.both" (defScope (mth 11 6)) s.heap.objs.size fa cdv) (cxOf (L2.CX P w) P w K mg base ["self", "left"] "Reader.both" (defScope (mth 11 6)) fa cdv A outer s H E).xe)
    (tk : Takes (cxOf (L2.CX P w) P w K mg base ["self", "left"] "Reader.both" (defScope (mth 11 6)) fa cdv A outer s H E) (WD E)) :
    GSs (cxOf (L2.CX P w) P w K mg base ["self", "left"] "Reader.both" (defScope (mth 11 6)) fa cdv A outer s H E) (WD E) (defBody (mth 11 6)) (b_Reader_both Γ) := by
  have nd : (["self", "left"] : List Str).Nodup := s_Reader_both.nd
  have hu : (cxOf (L2.CX P w) P w K mg base ["self", "left"] "Reader.both" (defScope (mth 11 6)) fa cdv A outer s H E).A.units + 200 < cLine := by
    have := hr.un
    show (A.deeper (envOfC "Reader.both" (defScope (mth 11 6)) s.heap.objs.size fa cdv)).units + 200 < cLine
    omega
  have hu1 : (cxOf (L2.CX P w) P w K mg base ["self", "left"] "Reader.both" (defScope (mth 11 6)) fa cdv A outer s H E).A.units + 1 < cLine := by omega
  exact (gs_cons (gs_set 1 (ge_mth0 [82, 101, 97, 100, 101, 114] [100, 101, 110, 105, 101, 100] (ge_var 0) fc.k_Reader (M 7 _ _ _ rfl) (hr.mono (Nat.le_succ _)) tk) nd)
    (gs_cons (gs_while hp (gt_cmp (og_eq hu) (ge_mth0 [82, 101, 97, 100, 101, 114] [102, 105, 120, 101, 100] (ge_var 0) fc.k_Reader (M 2 _ _ _ rfl) (hr.mono (Nat.le_succ _)) tk) (ge_str [97, 110, 100])) (gs_cons (gs_fldaug [82, 101, 97, 100, 101, 114] [97, 116] (ge_var 0) ge_int fc.k_Reader fc.n_Reader_at)
    (gs_cons (gs_set 1 (ge_tup (ga_cons (ge_str [97, 110, 100]) (ga_cons (ge_var 1) (ga_cons (ge_mth0 [82, 101, 97, 100, 101, 114] [100, 101, 110, 105, 101, 100] (ge_var 0) fc.k_Reader (M 7 _ _ _ rfl) (hr.mono (Nat.le_succ _)) tk) ga_nil)))) nd)
    gs_nil)))
    (gs_cons (gs_ret (ge_var 1))
    gs_nil)))
theorem k_Reader_both {fd : FuncData} (F : AllK P w K mg base sig k Γ) (M : AllM P w K mg base msig 18 k Γ) (k1 : 1 ≤ k) (IO_SyntaxProblem : InitOk P w K mg base (clsA K [83, 121, 110, 116, 97, 120, 80, 114, 111, 98, 108, 101, 109]) (He.ma K (clsA K [83, 121, 110, 116, 97, 120, 80, 114, 111, 98, 108, 101, 109]) (sOf [95, 95, 105, 110, 105, 116, 95, 95])) ["self", "start"] "start") (fc : Fc K mg) (U : FunD K "both" "Reader.both" (defArgs (mth 11 6)) (defBody (mth 11 6)) (defScope (mth 11 6)) [] [] (He.ma K (clsA K [82, 101, 97, 100, 101, 114]) (sOf [98, 111, 116, 104])) fd) : FnOk P w K mg base (L2.CX P w) (k + 2) (He.ma K (clsA K [82, 101, 97, 100, 101, 114]) (sOf [98, 111, 116, 104])) fd ["self"] (spG K (d_Reader_both Γ) 1) :=
  fn_G (k := k + 1) U s_Reader_both (fun args h _ => .inl rfl) fun cdv A outer s H E hr hp tk => w_Reader_both F M k1 IO_SyntaxProblem fc hr hp tk
theorem s_Reader_denied : FnScope ["self", "word", "name"] ["self"] (defScope (mth 11 7)) := ⟨rfl, rfl, rfl, by decide +kernel, rfl, by decide +kernel, by decide +kernel⟩
theorem w_Reader_denied (F : AllK P w K mg base sig k Γ) (M : AllM P w K mg base msig 18 k Γ) (k1 : 1 ≤ k) (IO_SyntaxProblem : InitOk P w K mg base (clsA K [83, 121, 110, 116, 97, 120, 80, 114, 111, 98, 108, 101, 109]) (He.ma K (clsA K [83, 121, 110, 116, 97, 120, 80, 114, 111, 98, 108, 101, 109]) (sOf [95, 95, 105, 110, 105, 116, 95, 95])) ["self", "start"] "start") (fc : Fc K mg) {fa : Addr} {cdv : Value} {A : Around} {outer : List PySem.Env} {s : Shared} {H : Hp} {E : XK} (hr : Room (k + 1) (A.deeper (envOfC "Reader.denied" (defScope (mth 11 7)) s.heap.objs.size fa cdv)))
    (hp : PassesOwn (model P w) (A.deeper (envOfC "Reader.denied" (defScope (mth 11 7)) s.heap.objs.size fa cdv)) (envOfC "Reader.denied" (defScope (mth 11 7)) s.heap.objs.size fa cdv) (cxOf (L2.CX P w) P w K mg base ["self", "word", "name"] "Reader.denied" (defScope (mth 11 7)) fa cdv A outer s H E).xe)
    (tk : Takes (cxOf (L2.CX P w) P w K mg base ["self", "word", "name"] "Reader.denied" (defScope (mth 11 7)) fa cdv A outer s H E) (WD E)) :
    GSs (cxOf (L2.CX P w) P w K mg base ["self", "word", "name"] "Reader.denied" (defScope (mth 11 7)) fa cdv A outer s H E) (WD E) (defBody (mth 11 7)) (b_Reader_denied Γ) := by
  have nd : (["self", "word", "name"] : List Str).Nodup := s_Reader_denied.nd
  have hu : (cxOf (L2.CX P w) P w K mg base ["self", "word", "name"] "Reader.denied" (defScope (mth 11 7)) fa cdv A outer s H E).A.units + 200 < cLine := by
    have := hr.un
    show (A.deeper (envOfC "Reader.denied" (defScope (mth 11 7)) s.heap.objs.size fa cdv)).units + 200 < cLine
    omega
  have hu1 : (cxOf (L2.CX P w) P w K mg base ["self", "word", "name"] "Reader.denied" (defScope (mth 11 7)) fa cdv A outer s H E).A.units + 1 < cLine := by omega
  exact (gs_cons (gs_set 1 (ge_mth0 [82, 101, 97, 100, 101, 114] [102, 105, 120, 101, 100] (ge_var 0) fc.k_Reader (M 2 _ _ _ rfl) (hr.mono (Nat.le_succ _)) tk) nd)
    (gs_cons (gs_if (gt_cmp (og_eq hu) (ge_var 1) (ge_str [110, 111, 116])) (gs_cons (gs_fldaug [82, 101, 97, 100, 101, 114] [97, 116] (ge_var 0) ge_int fc.k_Reader fc.n_Reader_at)
    (gs_cons (gs_ret (ge_tup (ga_cons (ge_str [110, 111, 116]) (ga_cons (ge_mth0 [82, 101, 97, 100, 101, 114] [100, 101, 110, 105, 101, 100] (ge_var 0) fc.k_Reader (M 7 _ _ _ rfl) (hr.mono (Nat.le_succ _)) tk) ga_nil))))
    gs_nil)) gs_nil)
    (gs_cons (gs_if (GW.pt (gw_or (gt_cmp (og_eq hu) (ge_var 1) (ge_str [115, 111, 109, 101])) (gw_or1 (gt_cmp (og_eq hu) (ge_var 1) (ge_str [97, 108, 108]))))) (gs_cons (gs_fldaug [82, 101, 97, 100, 101, 114] [97, 116] (ge_var 0) ge_int fc.k_Reader fc.n_Reader_at)
    (gs_cons (gs_set 2 (ge_mth [82, 101, 97, 100, 101, 114] [110, 97, 109, 101] (ge_var 0) fc.k_Reader (M 4 _ _ _ rfl) (hr.mono (Nat.le_succ _)) tk (gan_cons (ge_str [97, 110, 121]) gan_nil)) nd)
    (gs_cons (gs_expr (ge_mth [82, 101, 97, 100, 101, 114] [116, 97, 107, 101] (ge_var 0) fc.k_Reader (M 3 _ _ _ rfl) (hr.mono (Nat.le_succ _)) tk (gan_cons (ge_str [58]) gan_nil)))
    (gs_cons (gs_if (gt_tru (ge_fn (F 0 _ _ rfl) (hr.mono (Nat.le_succ _)) tk (gan_cons (ge_var 2) gan_nil))) (gs_cons (gs_set 1 (ge_bin og_add (ge_var 1) (ge_str [115, 101, 116])) nd)
    gs_nil) gs_nil)
    (gs_cons (gs_ret (ge_tup (ga_cons (ge_var 1) (ga_cons (ge_var 2) (ga_cons (ge_mth0 [82, 101, 97, 100, 101, 114] [100, 101, 110, 105, 101, 100] (ge_var 0) fc.k_Reader (M 7 _ _ _ rfl) (hr.mono (Nat.le_succ _)) tk) ga_nil)))))
    gs_nil))))) gs_nil)
    (gs_cons (gs_ret (ge_mth0 [82, 101, 97, 100, 101, 114] [115, 105, 109, 112, 108, 101] (ge_var 0) fc.k_Reader (M 10 _ _ _ rfl) (hr.mono (Nat.le_succ _)) tk))
    gs_nil))))
theorem k_Reader_denied {fd : FuncData} (F : AllK P w K mg base sig k Γ) (M : AllM P w K mg base msig 18 k Γ) (k1 : 1 ≤ k) (IO_SyntaxProblem : InitOk P w K mg base (clsA K [83, 121, 110, 116, 97, 120, 80, 114, 111, 98, 108, 101, 109]) (He.ma K (clsA K [83, 121, 110, 116, 97, 120, 80, 114, 111, 98, 108, 101, 109]) (sOf [95, 95, 105, 110, 105, 116, 95, 95])) ["self", "start"] "start") (fc : Fc K mg) (U : FunD K "denied" "Reader.denied" (defArgs (mth 11 7)) (defBody (mth 11 7)) (defScope (mth 11 7)) [] [] (He.ma K (clsA K [82, 101, 97, 100, 101, 114]) (sOf [100, 101, 110, 105, 101, 100])) fd) : FnOk P w K mg base (L2.CX P w) (k + 2) (He.ma K (clsA K [82, 101, 97, 100, 101, 114]) (sOf [100, 101, 110, 105, 101, 100])) fd ["self"] (spG K (d_Reader_denied Γ) 1) :=
  fn_G (k := k + 1) U s_Reader_denied (fun args h _ => .inl rfl) fun cdv A outer s H E hr hp tk => w_Reader_denied F M k1 IO_SyntaxProblem fc hr hp tk
theorem s_Reader_pair : FnScope ["self", "first", "second", "one", "two"] ["self", "first", "second"] (defScope (mth 11 8)) := ⟨rfl, rfl, rfl, by decide +kernel, rfl, by decide +kernel, by decide +kernel⟩
theorem w_Reader_pair (F : AllK P w K mg base sig k Γ) (M : AllM P w K mg base msig 18 k Γ) (k1 : 1 ≤ k) (IO_SyntaxProblem : InitOk P w K mg base (clsA K [83, 121, 110, 116, 97, 120, 80, 114, 111, 98, 108, 101, 109]) (He.ma K (clsA K [83, 121, 110, 116, 97, 120, 80, 114, 111, 98, 108, 101, 109]) (sOf [95, 95, 105, 110, 105, 116, 95, 95])) ["self", "start"] "start") (fc : Fc K mg) {fa : Addr} {cdv : Value} {A : Around} {outer : List PySem.Env} {s : Shared} {H : Hp} {E : XK} (hr : Room (k + 1) (A.deeper (envOfC "Reader.pair" (defScope (mth 11 8)) s.heap.objs.size fa cdv)))
    (hp : PassesOwn (model P w) (A.deeper (envOfC "Reader.pair" (defScope (mth 11 8)) s.heap.objs.size fa cdv)) (envOfC "Reader.pair" (defScope (mth 11 8)) s.heap.objs.size fa cdv) (cxOf (L2.CX P w) P w K mg base ["self", "first", "second", "one", "two"] "Reader.pair" (defScope (mth 11 8)) fa cdv A outer s H E).xe)
    (tk : Takes (cxOf (L2.CX P w) P w K mg base ["self", "first", "second", "one", "two"] "Reader.pair" (defScope (mth 11 8)) fa cdv A outer s H E) (WD E)) :
    GSs (cxOf (L2.CX P w) P w K mg base ["self", "first", "second", "one", "two"] "Reader.pair" (defScope (mth 11 8)) fa cdv A outer s H E) (WD E) (defBody (mth 11 8)) (b_Reader_pair Γ) := by
  have nd : (["self", "first", "second", "one", "two"] : List Str).Nodup := s_Reader_pair.nd
  have hu : (cxOf (L2.CX P w) P w K mg base ["self", "first", "second", "one", "two"] "Reader.pair" (defScope (mth 11 8)) fa cdv A outer s H E).A.units + 200 < cLine := by
    have := hr.un
    show (A.deeper (envOfC "Reader.pair" (defScope (mth 11 8)) s.heap.objs.size fa cdv)).units + 200 < cLine
    omega
  have hu1 : (cxOf (L2.CX P w) P w K mg base ["self", "first", "second", "one", "two"] "Reader.pair" (defScope (mth 11 8)) fa cdv A outer s H E).A.units + 1 < cLine := by omega
  exact (gs_cons (gs_expr (ge_mth [82, 101, 97, 100, 101, 114] [116, 97, 107, 101] (ge_var 0) fc.k_Reader (M 3 _ _ _ rfl) (hr.mono (Nat.le_succ _)) tk (gan_cons (ge_str [40]) gan_nil)))
    (gs_cons (gs_set 3 (ge_mth [82, 101, 97, 100, 101, 114] [110, 97, 109, 101] (ge_var 0) fc.k_Reader (M 4 _ _ _ rfl) (hr.mono (Nat.le_succ _)) tk (gan_cons (ge_var 1) gan_nil)) nd)
    (gs_cons (gs_expr (ge_mth [82, 101, 97, 100, 101, 114] [116, 97, 107, 101] (ge_var 0) fc.k_Reader (M 3 _ _ _ rfl) (hr.mono (Nat.le_succ _)) tk (gan_cons (ge_str [44]) gan_nil)))
    (gs_cons (gs_set 4 (ge_mth [82, 101, 97, 100, 101, 114] [110, 97, 109, 101] (ge_var 0) fc.k_Reader (M 4 _ _ _ rfl) (hr.mono (Nat.le_succ _)) tk (gan_cons (ge_var 2) gan_nil)) nd)
    (gs_cons (gs_expr (ge_mth [82, 101, 97, 100, 101, 114] [116, 97, 107, 101] (ge_var 0) fc.k_Reader (M 3 _ _ _ rfl) (hr.mono (Nat.le_succ _)) tk (gan_cons (ge_str [41]) gan_nil)))
    (gs_cons (gs_ret (ge_tup (ga_cons (ge_var 3) (ga_cons (ge_var 4) ga_nil))))
    gs_nil))))))
theorem k_Reader_pair {fd : FuncData} (F : AllK P w K mg base sig k Γ) (M : AllM P w K mg base msig 18 k Γ) (k1 : 1 ≤ k) (IO_SyntaxProblem : InitOk P w K mg base (clsA K [83, 121, 110, 116, 97, 120, 80, 114, 111, 98, 108, 101, 109]) (He.ma K (clsA K [83, 121, 110, 116, 97, 120, 80, 114, 111, 98, 108, 101, 109]) (sOf [95, 95, 105, 110, 105, 116, 95, 95])) ["self", "start"] "start") (fc : Fc K mg) (U : FunD K "pair" "Reader.pair" (defArgs (mth 11 8)) (defBody (mth 11 8)) (defScope (mth 11 8)) [] [] (He.ma K (clsA K [82, 101, 97, 100, 101, 114]) (sOf [112, 97, 105, 114])) fd) : FnOk P w K mg base (L2.CX P w) (k + 2) (He.ma K (clsA K [82, 101, 97, 100, 101, 114]) (sOf [112, 97, 105, 114])) fd ["self", "first", "second"] (spG K (d_Reader_pair Γ) 3) :=
  fn_G (k := k + 1) U s_Reader_pair (fun args h _ => .inl rfl) fun cdv A outer s H E hr hp tk => w_Reader_pair F M k1 IO_SyntaxProblem fc hr hp tk
theorem s_Reader_single : FnScope ["self", "name"] ["self"] (defScope (mth 11 9)) := ⟨rfl, rfl, rfl, by decide +kernel, rfl, by decide +kernel, by decide +kernel⟩
theorem w_Reader_single (F : AllK P w K mg base sig k Γ) (M : AllM P w K mg base msig 18 k Γ) (k1 : 1 ≤ k) (IO_SyntaxProblem : InitOk P w K mg base (clsA K [83, 121, 110, 116, 97, 120, 80, 114, 111, 98, 108, 101, 109]) (He.ma K (clsA K [83, 121, 110, 116, 97, 120, 80, 114, 111, 98, 108, 101, 109]) (sOf [95, 95, 105, 110, 105, 116, 95, 95])) ["self", "start"] "start") (fc : Fc K mg) {fa : Addr} {cdv : Value} {A : Around} {outer : List PySem.Env} {s : Shared} {H : Hp} {E : XK} (hr : Room (k + 1) (A.deeper (envOfC "Reader.single" (defScope (mth 11 9)) s.heap.objs.size fa cdv)))
    (hp : PassesOwn (model P w) (A.deeper (envOfC "Reader.single" (defScope (mth 11 9)) s.heap.objs.size fa cdv)) (envOfC "Reader.single" (defScope (mth 11 9)) s.heap.objs.size fa cdv) (cxOf (L2.CX P w) P w K mg base ["self", "name"] "Reader.single" (defScope (mth 11 9)) fa cdv A outer s H E).xe)
    (tk : Takes (cxOf (L2.CX P w) P w K mg base ["self", "name"] "Reader.single" (defScope (mth 11 9)) fa cdv A outer s H E) (WD E)) :
    GSs (cxOf (L2.CX P w) P w K mg base ["self", "name"] "Reader.single" (defScope (mth 11 9)) fa cdv A outer s H E) (WD E) (defBody (mth 11 9)) (b_Reader_single Γ) := by
  have nd : (["self", "name"] : List Str).Nodup := s_Reader_single.nd
  have hu : (cxOf (L2.CX P w) P w K mg base ["self", "name"] "Reader.single" (defScope (mth 11 9)) fa cdv A outer s H E).A.units + 200 < cLine := by
    have := hr.un
    show (A.deeper (envOfC "Reader.single" (defScope (mth 11 9)) s.heap.objs.size fa cdv)).units + 200 < cLine
    omega
  have hu1 : (cxOf (L2.CX P w) P w K mg base ["self", "name"] "Reader.single" (defScope (mth 11 9)) fa cdv A outer s H E).A.units + 1 < cLine := by omega
  exact (gs_cons (gs_expr (ge_mth [82, 101, 97, 100, 101, 114] [116, 97, 107, 101] (ge_var 0) fc.k_Reader (M 3 _ _ _ rfl) (hr.mono (Nat.le_succ _)) tk (gan_cons (ge_str [40]) gan_nil)))
    (gs_cons (gs_set 1 (ge_mth [82, 101, 97, 100, 101, 114] [110, 97, 109, 101] (ge_var 0) fc.k_Reader (M 4 _ _ _ rfl) (hr.mono (Nat.le_succ _)) tk (gan_cons (ge_str [101, 108, 101, 109, 101, 110, 116]) gan_nil)) nd)
    (gs_cons (gs_expr (ge_mth [82, 101, 97, 100, 101, 114] [116, 97, 107, 101] (ge_var 0) fc.k_Reader (M 3 _ _ _ rfl) (hr.mono (Nat.le_succ _)) tk (gan_cons (ge_str [41]) gan_nil)))
    (gs_cons (gs_ret (ge_var 1))
    gs_nil))))
theorem k_Reader_single {fd : FuncData} (F : AllK P w K mg base sig k Γ) (M : AllM P w K mg base msig 18 k Γ) (k1 : 1 ≤ k) (IO_SyntaxProblem : InitOk P w K mg base (clsA K [83, 121, 110, 116, 97, 120, 80, 114, 111, 98, 108, 101, 109]) (He.ma K (clsA K [83, 121, 110, 116, 97, 120, 80, 114, 111, 98, 108, 101, 109]) (sOf [95, 95, 105, 110, 105, 116, 95, 95])) ["self", "start"] "start") (fc : Fc K mg) (U : FunD K "single" "Reader.single" (defArgs (mth 11 9)) (defBody (mth 11 9)) (defScope (mth 11 9)) [] [] (He.ma K (clsA K [82, 101, 97, 100, 101, 114]) (sOf [115, 105, 110, 103, 108, 101])) fd) : FnOk P w K mg base (L2.CX P w) (k + 2) (He.ma K (clsA K [82, 101, 97, 100, 101, 114]) (sOf [115, 105, 110, 103, 108, 101])) fd ["self"] (spG K (d_Reader_single Γ) 1) :=
  fn_G (k := k + 1) U s_Reader_single (fun args h _ => .inl rfl) fun cdv A outer s H E hr hp tk => w_Reader_single F M k1 IO_SyntaxProblem fc hr hp tk
theorem s_Reader_simple : FnScope ["self", "word", "sort", "result", "label", "way"] ["self"] (defScope (mth 11 10)) := ⟨rfl, rfl, rfl, by decide +kernel, rfl, by decide +kernel, by decide +kernel⟩
theorem w_Reader_simple (F : AllK P w K mg base sig k Γ) (M : AllM P w K mg base msig 18 k Γ) (k1 : 1 ≤ k) (IO_SyntaxProblem : InitOk P w K mg base (clsA K [83, 121, 110, 116, 97, 120, 80, 114, 111, 98, 108, 101, 109]) (He.ma K (clsA K [83, 121, 110, 116, 97, 120, 80, 114, 111, 98, 108, 101, 109]) (sOf [95, 95, 105, 110, 105, 116, 95, 95])) ["self", "start"] "start") (fc : Fc K mg) {fa : Addr} {cdv : Value} {A : Around} {outer : List PySem.Env} {s : Shared} {H : Hp} {E : XK} (hr : Room (k + 1) (A.deeper (envOfC "Reader.simple" (defScope (mth 11 10)) s.heap.objs.size fa cdv)))
    (hp : PassesOwn (model P w) (A.deeper (envOfC "Reader.simple" (defScope (mth 11 10)) s.heap.objs.size fa cdv)) (envOfC "Reader.simple" (defScope (mth 11 10)) s.heap.objs.size fa cdv) (cxOf (L2.CX P w) P w K mg base ["self", "word", "sort", "result", "label", "way"] "Reader.simple" (defScope (mth 11 10)) fa cdv A outer s H E).xe)
    (tk : Takes (cxOf (L2.CX P w) P w K mg base ["self", "word", "sort", "result", "label", "way"] "Reader.simple" (defScope (mth 11 10)) fa cdv A outer s H E) (WD E)) :
    GSs (cxOf (L2.CX P w) P w K mg base ["self", "word", "sort", "result", "label", "way"] "Reader.simple" (defScope (mth 11 10)) fa cdv A outer s H E) (WD E) (defBody (mth 11 10)) (b_Reader_simple Γ) := by
  have nd : (["self", "word", "sort", "result", "label", "way"] : List Str).Nodup := s_Reader_simple.nd
  have hu : (cxOf (L2.CX P w) P w K mg base ["self", "word", "sort", "result", "label", "way"] "Reader.simple" (defScope (mth 11 10)) fa cdv A outer s H E).A.units + 200 < cLine := by
    have := hr.un
    show (A.deeper (envOfC "Reader.simple" (defScope (mth 11 10)) s.heap.objs.size fa cdv)).units + 200 < cLine
    omega
  have hu1 : (cxOf (L2.CX P w) P w K mg base ["self", "word", "sort", "result", "label", "way"] "Reader.simple" (defScope (mth 11 10)) fa cdv A outer s H E).A.units + 1 < cLine := by omega
  exact (gs_cons (gs_set 1 (ge_mth0 [82, 101, 97, 100, 101, 114] [102, 105, 120, 101, 100] (ge_var 0) fc.k_Reader (M 2 _ _ _ rfl) (hr.mono (Nat.le_succ _)) tk) nd)
    (gs_cons (gs_expr (ge_mth [82, 101, 97, 100, 101, 114] [110, 101, 101, 100] (ge_var 0) fc.k_Reader (M 1 _ _ _ rfl) (hr.mono (Nat.le_succ _)) tk (gan_cons (ge_cmp (og_in hu) (ge_var 1) (ge_tup (ga_cons (ge_str [40]) (ga_cons (ge_str [116, 114, 117, 101]) (ga_cons (ge_str [108, 97, 98, 101, 108]) (ga_cons (ge_str [99, 104, 105, 108, 100]) (ga_cons (ge_str [98, 101, 108, 111, 119]) (ga_cons (ge_str [115, 97, 109, 101]) (ga_cons (ge_str [105, 110]) (ga_cons (ge_str [105, 110, 115, 105, 100, 101]) (ga_cons (ge_str [116, 111, 112]) ga_nil))))))))))) gan_nil)))
    (gs_cons (gs_fldaug [82, 101, 97, 100, 101, 114] [97, 116] (ge_var 0) ge_int fc.k_Reader fc.n_Reader_at)
    (gs_cons (gs_if (gt_cmp (og_eq hu) (ge_var 1) (ge_str [40])) (gs_cons (gs_set 3 (ge_mth0 [82, 101, 97, 100, 101, 114] [101, 105, 116, 104, 101, 114] (ge_var 0) fc.k_Reader (M 5 _ _ _ rfl) (hr.mono (Nat.le_succ _)) tk) nd)
    (gs_cons (gs_expr (ge_mth [82, 101, 97, 100, 101, 114] [116, 97, 107, 101] (ge_var 0) fc.k_Reader (M 3 _ _ _ rfl) (hr.mono (Nat.le_succ _)) tk (gan_cons (ge_str [41]) gan_nil)))
    (gs_cons (gs_ret (ge_var 3))
    gs_nil))) gs_nil)
    (gs_cons (gs_if (gt_cmp (og_eq hu) (ge_var 1) (ge_str [116, 114, 117, 101])) (gs_cons (gs_ret (ge_tup (ga_cons (ge_str [116, 114, 117, 101]) ga_nil)))
    gs_nil) gs_nil)
    (gs_cons (gs_if (gt_cmp (og_eq hu) (ge_var 1) (ge_str [116, 111, 112])) (gs_cons (gs_ret (ge_tup (ga_cons (ge_str [116, 111, 112]) (ga_cons (ge_mth0 [82, 101, 97, 100, 101, 114] [115, 105, 110, 103, 108, 101] (ge_var 0) fc.k_Reader (M 9 _ _ _ rfl) (hr.mono (Nat.le_succ _)) tk) ga_nil))))
    gs_nil) gs_nil)
    (gs_cons (gs_if (gt_cmp (og_eq hu) (ge_var 1) (ge_str [108, 97, 98, 101, 108])) (gs_cons (gs_set 4 (ge_mth [82, 101, 97, 100, 101, 114] [110, 97, 109, 101] (ge_var 0) fc.k_Reader (M 4 _ _ _ rfl) (hr.mono (Nat.le_succ _)) tk (gan_cons (ge_str [108, 97, 98, 101, 108]) gan_nil)) nd)
    (gs_cons (gs_ret (ge_tup (ga_cons (ge_str [108, 97, 98, 101, 108]) (ga_cons (ge_var 4) (ga_cons (ge_mth0 [82, 101, 97, 100, 101, 114] [115, 105, 110, 103, 108, 101] (ge_var 0) fc.k_Reader (M 9 _ _ _ rfl) (hr.mono (Nat.le_succ _)) tk) ga_nil)))))
    gs_nil)) gs_nil)
    (gs_cons (gs_if (gt_cmp (og_eq hu) (ge_var 1) (ge_str [99, 104, 105, 108, 100])) (gs_cons (gs_expr (ge_mth [82, 101, 97, 100, 101, 114] [110, 101, 101, 100] (ge_var 0) fc.k_Reader (M 1 _ _ _ rfl) (hr.mono (Nat.le_succ _)) tk (gan_cons (ge_or (ge_cmp (og_eq hu) (ge_mth0 [82, 101, 97, 100, 101, 114] [102, 105, 120, 101, 100] (ge_var 0) fc.k_Reader (M 2 _ _ _ rfl) (hr.mono (Nat.le_succ _)) tk) (ge_str [48])) (ge_one (ge_cmp (og_eq hu) (ge_mth0 [82, 101, 97, 100, 101, 114] [102, 105, 120, 101, 100] (ge_var 0) fc.k_Reader (M 2 _ _ _ rfl) (hr.mono (Nat.le_succ _)) tk) (ge_str [49])))) gan_nil)))
    (gs_cons (gs_set 5 (ge_if (gt_cmp (og_eq hu) (ge_mth0 [82, 101, 97, 100, 101, 114] [102, 105, 120, 101, 100] (ge_var 0) fc.k_Reader (M 2 _ _ _ rfl) (hr.mono (Nat.le_succ _)) tk) (ge_str [48])) ge_int ge_int) nd)
    (gs_cons (gs_fldaug [82, 101, 97, 100, 101, 114] [97, 116] (ge_var 0) ge_int fc.k_Reader fc.n_Reader_at)
    (gs_cons (gs_ret (ge_bin og_add (ge_tup (ga_cons (ge_str [99, 104, 105, 108, 100]) (ga_cons (ge_var 5) ga_nil))) (ge_mth [82, 101, 97, 100, 101, 114] [112, 97, 105, 114] (ge_var 0) fc.k_Reader (M 8 _ _ _ rfl) (hr.mono (Nat.le_succ _)) tk (gan_cons (ge_str [101, 108, 101, 109, 101, 110, 116]) (gan_cons (ge_str [101, 108, 101, 109, 101, 110, 116]) gan_nil)))))
    gs_nil)))) gs_nil)
    (gs_cons (gs_if (gt_cmp (og_eq hu) (ge_var 1) (ge_str [105, 110])) (gs_cons (gs_ret (ge_bin og_add (ge_tup (ga_cons (ge_str [105, 110]) ga_nil)) (ge_mth [82, 101, 97, 100, 101, 114] [112, 97, 105, 114] (ge_var 0) fc.k_Reader (M 8 _ _ _ rfl) (hr.mono (Nat.le_succ _)) tk (gan_cons (ge_str [101, 108, 101, 109, 101, 110, 116]) (gan_cons (ge_str [115, 101, 116]) gan_nil)))))
    gs_nil) gs_nil)
    (gs_cons (gs_set 2 (ge_if (gt_cmp (og_eq hu) (ge_var 1) (ge_str [105, 110, 115, 105, 100, 101])) (ge_str [115, 101, 116]) (ge_str [101, 108, 101, 109, 101, 110, 116])) nd)
    (gs_cons (gs_ret (ge_bin og_add (ge_tup (ga_cons (ge_var 1) ga_nil)) (ge_mth [82, 101, 97, 100, 101, 114] [112, 97, 105, 114] (ge_var 0) fc.k_Reader (M 8 _ _ _ rfl) (hr.mono (Nat.le_succ _)) tk (gan_cons (ge_var 2) (gan_cons (ge_var 2) gan_nil)))))
    gs_nil)))))))))))
theorem k_Reader_simple {fd : FuncData} (F : AllK P w K mg base sig k Γ) (M : AllM P w K mg base msig 18 k Γ) (k1 : 1 ≤ k) (IO_SyntaxProblem : InitOk P w K mg base (clsA K [83, 121, 110, 116, 97, 120, 80, 114, 111, 98, 108, 101, 109]) (He.ma K (clsA K [83, 121, 110, 116, 97, 120, 80, 114, 111, 98, 108, 101, 109]) (sOf [95, 95, 105, 110, 105, 116, 95, 95])) ["self", "start"] "start") (fc : Fc K mg) (U : FunD K "simple" "Reader.simple" (defArgs (mth 11 10)) (defBody (mth 11 10)) (defScope (mth 11 10)) [] [] (He.ma K (clsA K [82, 101, 97, 100, 101, 114]) (sOf [115, 105, 109, 112, 108, 101])) fd) : FnOk P w K mg base (L2.CX P w) (k + 2) (He.ma K (clsA K [82, 101, 97, 100, 101, 114]) (sOf [115, 105, 109, 112, 108, 101])) fd ["self"] (spG K (d_Reader_simple Γ) 1) :=
  fn_G (k := k + 1) U s_Reader_simple (fun args h _ => .inl rfl) fun cdv A outer s H E hr hp tk => w_Reader_simple F M k1 IO_SyntaxProblem fc hr hp tk
end
end L05
set_option Elab.async false
set_option linter.all false
set_option maxRecDepth 100000
set_option maxHeartbeats 1000000
set_option autoImplicit false
namespace L05
/-! the reader, on the texts of the tokens -/
abbrev Sy := List Nat
abbrev wOr : Sy := [111, 114]
abbrev wAnd : Sy := [97, 110, 100]
abbrev wNot : Sy := [110, 111, 116]
abbrev wSome : Sy := [115, 111, 109, 101]
abbrev wAll : Sy := [97, 108, 108]
abbrev wTrue : Sy := [116, 114, 117, 101]
abbrev wTop : Sy := [116, 111, 112]
abbrev wLabel : Sy := [108, 97, 98, 101, 108]
abbrev wChild : Sy := [99, 104, 105, 108, 100]
abbrev wIn : Sy := [105, 110]
abbrev wInside : Sy := [105, 110, 115, 105, 100, 101]
abbrev wBelow : Sy := [98, 101, 108, 111, 119]
abbrev wSame : Sy := [115, 97, 109, 101]
abbrev sElem : Sy := [101, 108, 101, 109, 101, 110, 116]
abbrev sSet : Sy := [115, 101, 116]
abbrev sAny : Sy := [97, 110, 121]
abbrev kWord : Sy := [119, 111, 114, 100]
abbrev kName : Sy := [110, 97, 109, 101]
abbrev kSign : Sy := [115, 105, 103, 110]
abbrev kWrong : Sy := [119, 114, 111, 110, 103]
def letB (c : Nat) : Bool := (decide (97 ≤ c) && decide (c ≤ 122)) || (decide (65 ≤ c) && decide (c ≤ 90))
def digB (c : Nat) : Bool := decide (48 ≤ c) && decide (c ≤ 57)
def alnB (c : Nat) : Bool := letB c || digB c
def WDS : List Sy := [wTrue, wNot, wAnd, wOr, wSome, wAll, wIn, wInside, wBelow, wSame, wTop, wChild, wLabel]
def START : List Sy := [[40], wTrue, wLabel, wChild, wBelow, wSame, wIn, wInside, wTop]
def kind : Sy → Sy
  | [] => kWrong
  | c :: s => if letB c then (if (c :: s) ∈ WDS then kWord else kName) else if c ∈ [40, 41, 44, 58, 48, 49] then kSign else kWrong
def fixed : List Sy → Sy
  | [] => []
  | s :: _ => if kind s = kWord ∨ kind s = kSign then s else []
def isSet : Sy → Bool
  | [] => false
  | c :: _ => decide (65 ≤ c) && decide (c ≤ 90)
def sortOk (q s : Sy) : Bool := if q = wLabel then decide (s.length = 1) && !isSet s else if q = sAny then true else isSet s == decide (q = sSet)
abbrev Rs := Bool × List Sy
def tk (w : Sy) (ts : List Sy) : Rs := if fixed ts = w then (true, ts.tail) else (false, ts)
def nmP (q : Sy) : List Sy → Rs
  | [] => (false, [])
  | s :: r => if kind s = kName ∧ sortOk q s = true then (true, r) else (false, s :: r)
def thn (f g : List Sy → Rs) (ts : List Sy) : Rs := if (f ts).1 = true then g (f ts).2 else f ts
def prr (a b : Sy) : List Sy → Rs := thn (tk [40]) (thn (nmP a) (thn (tk [44]) (thn (nmP b) (tk [41]))))
def sgl : List Sy → Rs := thn (tk [40]) (thn (nmP sElem) (tk [41]))
def hdr : List Sy → Rs := thn (nmP sAny) (tk [58])
def dgt (ts : List Sy) : Rs := if fixed ts = [48] ∨ fixed ts = [49] then (true, ts.tail) else (false, ts)
def nop (ts : List Sy) : Rs := (true, ts)
def atom (w : Sy) : List Sy → Rs := if w = wTrue then nop else if w = wTop then sgl else if w = wLabel then thn (nmP wLabel) sgl else if w = wChild then thn dgt (prr sElem sElem)
  else if w = wIn then prr sElem sSet else if w = wInside then prr sSet sSet else prr sElem sElem
inductive NT where
  | Q (p : Bool) | L (p : Bool) | D | S
def nx : Bool → NT
  | true => .Q false
  | false => .D
def wd : Bool → Sy
  | true => wOr
  | false => wAnd
inductive Run : NT → List Sy → Bool → List Sy → Prop
  | q {p ts r1 b r} : Run (nx p) ts true r1 → Run (.L p) r1 b r → Run (.Q p) ts b r
  | qb {p ts r} : Run (nx p) ts false r → Run (.Q p) ts false r
  | ls {p ts} : fixed ts ≠ wd p → Run (.L p) ts true ts
  | lb {p ts r} : fixed ts = wd p → Run (nx p) ts.tail false r → Run (.L p) ts false r
  | lg {p ts r1 b r} : fixed ts = wd p → Run (nx p) ts.tail true r1 → Run (.L p) r1 b r → Run (.L p) ts b r
  | dn {ts b r} : fixed ts = wNot → Run .D ts.tail b r → Run .D ts b r
  | dh {ts r} : fixed ts = wSome ∨ fixed ts = wAll → hdr ts.tail = (false, r) → Run .D ts false r
  | dq {ts r1 b r} : fixed ts = wSome ∨ fixed ts = wAll → hdr ts.tail = (true, r1) → Run .D r1 b r → Run .D ts b r
  | ds {ts b r} : fixed ts ≠ wNot → ¬ (fixed ts = wSome ∨ fixed ts = wAll) → Run .S ts b r → Run .D ts b r
  | sb {ts} : fixed ts ∉ START → Run .S ts false ts
  | sp {ts r1 b r} : fixed ts = [40] → Run (.Q true) ts.tail true r1 → tk [41] r1 = (b, r) → Run .S ts b r
  | spb {ts r} : fixed ts = [40] → Run (.Q true) ts.tail false r → Run .S ts false r
  | sa {ts b r} : fixed ts ∈ START → fixed ts ≠ [40] → atom (fixed ts) ts.tail = (b, r) → Run .S ts b r
/-! what is not yet read does not matter -/
theorem fixed_head : ∀ {a b : List Sy}, a.head? = b.head? → fixed a = fixed b
  | [], [], _ => rfl
  | [], _ :: _, h => by cases h
  | _ :: _, [], h => by cases h
  | _ :: _, _ :: _, h => by simp only [List.head?_cons, Option.some.injEq] at h; subst h; rfl
theorem fixed_cons {ts : List Sy} {w : Sy} (h : fixed ts = w) (n : w ≠ []) : ∃ t, ts = w :: t := by
  match ts, h with
  | [], h => exact absurd h.symm n
  | s :: t, h =>
    simp only [fixed] at h
    split at h
    · exact ⟨t, by rw [h]⟩
    · exact absurd h.symm n
theorem fixed_st {s : Sy} {t u : List Sy} : fixed (s :: t) = fixed (s :: u) := rfl
def SmF (b : Bool) (r r' : List Sy) : Prop := b = true ∨ r'.head? = r.head? ∨ r' = []
def stp (r : List Sy) : Prop := fixed r ≠ wOr ∧ fixed r ≠ wAnd
def Sm (b : Bool) (r r' : List Sy) : Prop := r'.head? = r.head? ∨ r' = [] ∨ (b = true ∧ stp r')
def LocF (f : List Sy → Rs) : Prop := ∀ ts b r, f ts = (b, r) → ∃ c, ts = c ++ r ∧ ∀ r', SmF b r r' → f (c ++ r') = (b, r')
theorem Sm.f {b : Bool} {r r' : List Sy} (h : Sm b r r') : SmF b r r' := by
  rcases h with h | h | h
  · exact .inr (.inl h)
  · exact .inr (.inr h)
  · exact .inl h.1
theorem stp_nil : stp [] := ⟨by decide, by decide⟩
theorem sm_app {b : Bool} {c r r' : List Sy} (h : Sm b r r') : Sm true (c ++ r) (c ++ r') := by
  cases c with
  | nil =>
    rcases h with h | h | h
    · exact .inl h
    · exact .inr (.inl h)
    · exact .inr (.inr ⟨rfl, h.2⟩)
  | cons s t => exact .inl rfl
theorem loc_tk (w : Sy) (n : w ≠ []) : LocF (tk w) := by
  intro ts b r h
  unfold tk at h
  split at h
  · rename_i e
    obtain ⟨t, rfl⟩ := fixed_cons e n
    cases h
    refine ⟨[w], rfl, fun r' _ => ?_⟩
    unfold tk
    rw [if_pos (show fixed ([w] ++ r') = w from e)]
    rfl
  · rename_i e
    cases h
    refine ⟨[], rfl, fun r' h => ?_⟩
    unfold tk
    rcases h with h | h | h
    · cases h
    · rw [if_neg (show ¬ fixed ([] ++ r') = w by rw [List.nil_append, fixed_head h]; exact e)]
      rfl
    · subst h
      rw [if_neg (fun z => n z.symm)]
      rfl
theorem loc_dgt : LocF dgt := by
  intro ts b r h
  unfold dgt at h
  split at h
  · rename_i e
    obtain ⟨w, t, rfl, e'⟩ : ∃ w t, ts = w :: t ∧ fixed ts = w := by
      rcases e with e | e
      · obtain ⟨t, rfl⟩ := fixed_cons e (by decide); exact ⟨_, t, rfl, e⟩
      · obtain ⟨t, rfl⟩ := fixed_cons e (by decide); exact ⟨_, t, rfl, e⟩
    cases h
    refine ⟨[w], rfl, fun r' _ => ?_⟩
    unfold dgt
    rw [if_pos (show fixed ([w] ++ r') = [48] ∨ fixed ([w] ++ r') = [49] from e)]
    rfl
  · rename_i e
    cases h
    refine ⟨[], rfl, fun r' h => ?_⟩
    unfold dgt
    rcases h with h | h | h
    · cases h
    · rw [if_neg (show ¬ (fixed ([] ++ r') = [48] ∨ fixed ([] ++ r') = [49]) by rw [List.nil_append, fixed_head h]; exact e)]
      rfl
    · subst h
      rw [if_neg (by decide)]
      rfl
theorem loc_nm (q : Sy) : LocF (nmP q) := by
  intro ts b r h
  match ts, h with
  | [], h =>
    cases h
    refine ⟨[], rfl, fun r' h => ?_⟩
    rcases h with h | h | h
    · cases h
    · cases r' with
      | nil => rfl
      | cons a b => cases h
    · subst h; rfl
  | s :: t, h =>
    simp only [nmP] at h
    split at h
    · rename_i e
      cases h
      refine ⟨[s], rfl, fun r' _ => ?_⟩
      show nmP q (s :: r') = _
      simp only [nmP]
      rw [if_pos e]
    · rename_i e
      cases h
      refine ⟨[], rfl, fun r' h => ?_⟩
      rcases h with h | h | h
      · cases h
      · cases r' with
        | nil => cases h
        | cons a b =>
          simp only [List.head?_cons, Option.some.injEq] at h
          subst h
          show nmP q (a :: b) = _
          simp only [nmP]
          rw [if_neg e]
      · subst h; rfl
theorem loc_nop : LocF nop := by
  intro ts b r h
  cases h
  exact ⟨[], rfl, fun r' _ => rfl⟩
theorem loc_thn {f g : List Sy → Rs} (hf : LocF f) (hg : LocF g) : LocF (thn f g) := by
  intro ts b r h
  unfold thn at h
  rcases e : f ts with ⟨b1, r1⟩
  rw [e] at h
  cases b1 with
  | true =>
    simp only [if_true] at h
    obtain ⟨c1, e1, k1⟩ := hf ts _ _ e
    obtain ⟨c2, e2, k2⟩ := hg r1 _ _ h
    refine ⟨c1 ++ c2, by rw [e1, e2, List.append_assoc], fun r' hr => ?_⟩
    have := k1 (c2 ++ r') (.inl rfl)
    unfold thn
    rw [List.append_assoc, this]
    simp only [if_true]
    exact k2 r' hr
  | false =>
    simp only [Bool.false_eq_true, if_false] at h
    cases h
    obtain ⟨c1, e1, k1⟩ := hf ts _ _ e
    refine ⟨c1, e1, fun r' hr => ?_⟩
    have := k1 r' hr
    unfold thn
    rw [this]
    simp
theorem loc_prr (a b : Sy) : LocF (prr a b) := loc_thn (loc_tk _ (by decide)) (loc_thn (loc_nm _) (loc_thn (loc_tk _ (by decide)) (loc_thn (loc_nm _) (loc_tk _ (by decide)))))
theorem loc_sgl : LocF sgl := loc_thn (loc_tk _ (by decide)) (loc_thn (loc_nm _) (loc_tk _ (by decide)))
theorem loc_hdr : LocF hdr := loc_thn (loc_nm _) (loc_tk _ (by decide))
theorem loc_atom (w : Sy) : LocF (atom w) := by
  unfold atom
  split
  · exact loc_nop
  split
  · exact loc_sgl
  split
  · exact loc_thn (loc_nm _) loc_sgl
  split
  · exact loc_thn loc_dgt (loc_prr _ _)
  split
  · exact loc_prr _ _
  split
  · exact loc_prr _ _
  · exact loc_prr _ _
theorem wd_ne (p : Bool) : wd p ≠ [] := by cases p <;> decide
theorem st_ne {w : Sy} (h : w ∈ START) : w ≠ [] := by rintro rfl; revert h; decide
theorem loc {x : NT} {ts : List Sy} {b : Bool} {r : List Sy} (h : Run x ts b r) : ∃ c, ts = c ++ r ∧ (b = true → (∃ p, x = .L p) ∨ c ≠ []) ∧ ∀ r', Sm b r r' → Run x (c ++ r') b r' := by
  induction h with
  | @q p ts r1 b r h1 h2 i1 i2 =>
    obtain ⟨c1, e1, n1, k1⟩ := i1
    obtain ⟨c2, e2, n2, k2⟩ := i2
    refine ⟨c1 ++ c2, by rw [e1, e2, List.append_assoc], fun hb => .inr fun z => ?_, fun r' hr => ?_⟩
    · rcases n1 rfl with ⟨p', hp⟩ | hc
      · cases p <;> cases hp
      · exact hc (List.append_eq_nil_iff.mp z).1
    · rw [List.append_assoc]
      exact .q (k1 _ (e2 ▸ sm_app hr)) (k2 _ hr)
  | @qb p ts r h1 i1 =>
    obtain ⟨c1, e1, n1, k1⟩ := i1
    exact ⟨c1, e1, fun z => (by cases z), fun r' hr => .qb (k1 r' hr)⟩
  | @ls p ts e =>
    refine ⟨[], rfl, fun _ => .inl ⟨p, rfl⟩, fun r' hr => .ls ?_⟩
    rw [List.nil_append]
    rcases hr with h | h | h
    · rw [fixed_head h]; exact e
    · subst h; exact fun z => wd_ne p z.symm
    · cases p
      · exact h.2.2
      · exact h.2.1
  | @lb p ts r e h1 i1 =>
    obtain ⟨t, rfl⟩ := fixed_cons e (wd_ne p)
    obtain ⟨c1, e1, n1, k1⟩ := i1
    have e1 : t = c1 ++ r := e1
    subst e1
    exact ⟨wd p :: c1, rfl, fun z => (by cases z), fun r' hr => .lb (e : fixed (wd p :: (c1 ++ r)) = _) (k1 r' hr)⟩
  | @lg p ts r1 b r e h1 h2 i1 i2 =>
    obtain ⟨t, rfl⟩ := fixed_cons e (wd_ne p)
    obtain ⟨c1, e1, n1, k1⟩ := i1
    obtain ⟨c2, e2, n2, k2⟩ := i2
    have e1 : t = c1 ++ r1 := e1
    subst e1 e2
    refine ⟨wd p :: (c1 ++ c2), by simp, fun _ => .inl ⟨p, rfl⟩, fun r' hr => ?_⟩
    refine .lg (e : fixed (wd p :: (c1 ++ (c2 ++ r))) = _) ?_ (k2 _ hr)
    show Run (nx p) (c1 ++ c2 ++ r') _ _
    rw [List.append_assoc]
    exact k1 _ (sm_app hr)
  | @dn ts b r e h1 i1 =>
    obtain ⟨t, rfl⟩ := fixed_cons e (by decide)
    obtain ⟨c1, e1, n1, k1⟩ := i1
    have e1 : t = c1 ++ r := e1
    subst e1
    exact ⟨wNot :: c1, rfl, fun _ => .inr (by simp), fun r' hr => .dn (e : fixed (wNot :: (c1 ++ r)) = _) (k1 r' hr)⟩
  | @dh ts r e h1 =>
    obtain ⟨w, t, rfl⟩ : ∃ w t, ts = w :: t := by
      rcases e with e | e
      · obtain ⟨t, rfl⟩ := fixed_cons e (by decide); exact ⟨_, t, rfl⟩
      · obtain ⟨t, rfl⟩ := fixed_cons e (by decide); exact ⟨_, t, rfl⟩
    obtain ⟨c1, e1, k1⟩ := loc_hdr _ _ _ h1
    have e1 : t = c1 ++ r := e1
    subst e1
    exact ⟨w :: c1, rfl, fun z => (by cases z), fun r' hr => .dh (e : fixed (w :: (c1 ++ r)) = _ ∨ _) (k1 r' hr.f)⟩
  | @dq ts r1 b r e h1 h2 i2 =>
    obtain ⟨w, t, rfl⟩ : ∃ w t, ts = w :: t := by
      rcases e with e | e
      · obtain ⟨t, rfl⟩ := fixed_cons e (by decide); exact ⟨_, t, rfl⟩
      · obtain ⟨t, rfl⟩ := fixed_cons e (by decide); exact ⟨_, t, rfl⟩
    obtain ⟨c1, e1, k1⟩ := loc_hdr _ _ _ h1
    obtain ⟨c2, e2, n2, k2⟩ := i2
    have e1 : t = c1 ++ r1 := e1
    subst e1 e2
    refine ⟨w :: (c1 ++ c2), by simp, fun _ => .inr (by simp), fun r' hr => .dq (r1 := c2 ++ r') (e : fixed (w :: (c1 ++ (c2 ++ r))) = _ ∨ _) ?_ (k2 _ hr)⟩
    show hdr (c1 ++ c2 ++ r') = _
    rw [List.append_assoc]
    exact k1 _ (.inl rfl)
  | @ds ts b r e1 e2 h1 i1 =>
    obtain ⟨c, rfl, n, k⟩ := i1
    refine ⟨c, rfl, fun hb => .inr ?_, fun r' hr => ?_⟩
    · rcases n hb with ⟨p, z⟩ | z
      · cases z
      · exact z
    · have ef : (fixed (c ++ r') = fixed (c ++ r)) ∨ c ++ r' = [] := by
        cases c with
        | cons a c => exact .inl rfl
        | nil =>
          rcases hr with h | h | h
          · exact .inl (fixed_head h)
          · exact .inr h
          · rcases n h.1 with ⟨p, z⟩ | z
            · cases z
            · exact absurd rfl z
      rcases ef with ef | ef
      · exact .ds (by rw [ef]; exact e1) (by rw [ef]; exact e2) (k r' hr)
      · refine .ds ?_ ?_ (k r' hr) <;> rw [ef] <;> decide
  | @sb ts e =>
    refine ⟨[], rfl, fun z => (by cases z), fun r' hr => .sb ?_⟩
    rw [List.nil_append]
    rcases hr with h | h | h
    · rw [fixed_head h]; exact e
    · subst h; decide
    · cases h.1
  | @sp ts r1 b r e h1 h2 i1 =>
    obtain ⟨t, rfl⟩ := fixed_cons e (by decide)
    obtain ⟨c1, e1, n1, k1⟩ := i1
    obtain ⟨c2, e2, k2⟩ := loc_tk _ (by decide) _ _ _ h2
    have e1 : t = c1 ++ r1 := e1
    subst e1 e2
    refine ⟨[40] :: (c1 ++ c2), by simp, fun _ => .inr (by simp), fun r' hr => .sp (r1 := c2 ++ r') (e : fixed ([40] :: (c1 ++ (c2 ++ r))) = _) ?_ (k2 _ hr.f)⟩
    show Run (.Q true) (c1 ++ c2 ++ r') _ _
    rw [List.append_assoc]
    exact k1 _ (sm_app hr)
  | @spb ts r e h1 i1 =>
    obtain ⟨t, rfl⟩ := fixed_cons e (by decide)
    obtain ⟨c1, e1, n1, k1⟩ := i1
    have e1 : t = c1 ++ r := e1
    subst e1
    exact ⟨[40] :: c1, rfl, fun z => (by cases z), fun r' hr => .spb (e : fixed ([40] :: (c1 ++ r)) = _) (k1 r' hr)⟩
  | @sa ts b r e e2 h1 =>
    obtain ⟨t, ht⟩ := fixed_cons (ts := ts) rfl (st_ne e)
    obtain ⟨c1, e1, k1⟩ := loc_atom _ _ _ _ h1
    generalize hw : fixed ts = w at *
    subst ht
    have e1 : t = c1 ++ r := e1
    subst e1
    have hw' : ∀ r', fixed (w :: (c1 ++ r')) = w := fun r' => hw
    exact ⟨w :: c1, rfl, fun _ => .inr (by simp), fun r' hr => .sa (by show fixed (w :: (c1 ++ r')) ∈ _; rw [hw']; exact e) (by show fixed (w :: (c1 ++ r')) ≠ _; rw [hw']; exact e2) (by show atom (fixed (w :: (c1 ++ r'))) (c1 ++ r') = _; rw [hw']; exact k1 r' hr.f)⟩
theorem run_len {x : NT} {ts : List Sy} {b : Bool} {r : List Sy} (h : Run x ts b r) : r.length ≤ ts.length ∧ (b = true → (∀ p, x ≠ .L p) → r.length < ts.length) := by
  obtain ⟨c, rfl, n, _⟩ := loc h
  refine ⟨by simp, fun hb hx => ?_⟩
  rcases n hb with ⟨p, z⟩ | z
  · exact absurd z (hx p)
  · have := List.length_pos_iff.mpr z
    simp; omega
theorem locF_len {f : List Sy → Rs} (hf : LocF f) {ts : List Sy} {b : Bool} {r : List Sy} (h : f ts = (b, r)) : r.length ≤ ts.length := by
  obtain ⟨c, rfl, _⟩ := hf _ _ _ h
  simp
/-! every list is read -/
theorem tot : ∀ (n : Nat) (ts : List Sy), ts.length ≤ n → ∀ x, ∃ b r, Run x ts b r := by
  intro n
  induction n with
  | zero =>
    intro ts h
    have : ts = [] := List.length_eq_zero_iff.mp (by omega)
    subst this
    have s : Run .S [] false [] := .sb (by decide)
    have d : Run .D [] false [] := .ds (by decide) (by decide) s
    intro x
    match x with
    | .S => exact ⟨_, _, s⟩
    | .D => exact ⟨_, _, d⟩
    | .Q false => exact ⟨_, _, .qb d⟩
    | .Q true => exact ⟨_, _, .qb (.qb d)⟩
    | .L p => exact ⟨_, _, .ls fun z => wd_ne p z.symm⟩
  | succ n ih =>
    intro ts hts
    have tl : ∀ {w : Sy}, fixed ts = w → w ≠ [] → ts.tail.length ≤ n := fun e ne => by
      obtain ⟨t, rfl⟩ := fixed_cons e ne
      simpa using hts
    have s : ∃ b r, Run .S ts b r := by
      by_cases e : fixed ts ∈ START
      · by_cases e2 : fixed ts = [40]
        · obtain ⟨b, r, h⟩ := ih ts.tail (tl e2 (by decide)) (.Q true)
          cases b with
          | true => exact ⟨_, _, .sp (b := (tk [41] r).1) (r := (tk [41] r).2) e2 h rfl⟩
          | false => exact ⟨_, _, .spb e2 h⟩
        · exact ⟨_, _, .sa (b := (atom (fixed ts) ts.tail).1) (r := (atom (fixed ts) ts.tail).2) e e2 rfl⟩
      · exact ⟨_, _, .sb e⟩
    have d : ∃ b r, Run .D ts b r := by
      by_cases e : fixed ts = wNot
      · obtain ⟨b, r, h⟩ := ih ts.tail (tl e (by decide)) .D
        exact ⟨b, r, .dn e h⟩
      by_cases e2 : fixed ts = wSome ∨ fixed ts = wAll
      · have l1 : ts.tail.length ≤ n := by
          rcases e2 with e2 | e2
          · exact tl e2 (by decide)
          · exact tl e2 (by decide)
        rcases e3 : hdr ts.tail with ⟨b1, r1⟩
        cases b1 with
        | false => exact ⟨_, _, .dh e2 e3⟩
        | true =>
          obtain ⟨b, r, h⟩ := ih r1 (Nat.le_trans (locF_len loc_hdr e3) l1) .D
          exact ⟨_, _, .dq e2 e3 h⟩
      · obtain ⟨b, r, h⟩ := s
        exact ⟨_, _, .ds e e2 h⟩
    have q : ∀ p, (∃ b r, Run (nx p) ts b r) → ∃ b r, Run (.Q p) ts b r := fun p ⟨b, r, h⟩ => by
      cases b with
      | false => exact ⟨_, _, .qb h⟩
      | true =>
        have l := (run_len h).2 rfl (by cases p <;> intro p' z <;> cases z)
        obtain ⟨b2, r2, h2⟩ := ih r (by omega) (.L p)
        exact ⟨_, _, .q h h2⟩
    have q0 := q false d
    intro x
    match x with
    | .S => exact s
    | .D => exact d
    | .Q false => exact q0
    | .Q true => exact q true q0
    | .L p =>
      by_cases e : fixed ts = wd p
      · have l1 := tl e (wd_ne p)
        obtain ⟨b, r, h⟩ := ih ts.tail l1 (nx p)
        cases b with
        | false => exact ⟨_, _, .lb e h⟩
        | true =>
          obtain ⟨b2, r2, h2⟩ := ih r (Nat.le_trans (run_len h).1 l1) (.L p)
          exact ⟨_, _, .lg e h h2⟩
      · exact ⟨_, _, .ls e⟩
/-! a reader that can be run -/
def par : Nat → NT → List Sy → Option Rs
  | 0, _, _ => none
  | n + 1, .Q p, ts => match par n (nx p) ts with
    | some (true, r1) => par n (.L p) r1
    | o => o
  | n + 1, .L p, ts => if fixed ts = wd p then (match par n (nx p) ts.tail with
    | some (true, r1) => par n (.L p) r1
    | o => o) else some (true, ts)
  | n + 1, .D, ts => if fixed ts = wNot then par n .D ts.tail else if fixed ts = wSome ∨ fixed ts = wAll then (match hdr ts.tail with
    | (true, r1) => par n .D r1
    | (false, r) => some (false, r)) else par n .S ts
  | n + 1, .S, ts => if fixed ts ∈ START then (if fixed ts = [40] then (match par n (.Q true) ts.tail with
    | some (true, r1) => some (tk [41] r1)
    | o => o) else some (atom (fixed ts) ts.tail)) else some (false, ts)
theorem par_run : ∀ (n : Nat) {x : NT} {ts : List Sy} {b : Bool} {r : List Sy}, par n x ts = some (b, r) → Run x ts b r := by
  intro n
  induction n with
  | zero => intro x ts b r h; cases h
  | succ n ih =>
    intro x ts b r h
    match x with
    | .Q p =>
      unfold par at h
      split at h
      · rename_i r1 e
        exact .q (ih e) (ih h)
      · rename_i e2
        cases b with
        | false => exact .qb (ih h)
        | true => exact absurd h (e2 _)
    | .L p =>
      unfold par at h
      split at h
      · rename_i e0
        split at h
        · rename_i r1 e
          exact .lg e0 (ih e) (ih h)
        · rename_i e2
          cases b with
          | false => exact .lb e0 (ih h)
          | true => exact absurd h (e2 _)
      · rename_i e0
        cases h
        exact .ls e0
    | .D =>
      unfold par at h
      split at h
      · rename_i e
        exact .dn e (ih h)
      · rename_i e
        split at h
        · rename_i e2
          split at h
          · rename_i r1 e3
            exact .dq e2 e3 (ih h)
          · rename_i r1 e3
            cases h
            exact .dh e2 e3
        · rename_i e2
          exact .ds e e2 (ih h)
    | .S =>
      unfold par at h
      split at h
      · rename_i e
        split at h
        · rename_i e2
          split at h
          · rename_i r1 e3
            exact .sp e2 (ih e3) (Option.some.inj h)
          · rename_i e3
            cases b with
            | false => exact .spb e2 (ih h)
            | true => exact absurd h (e3 _)
        · rename_i e2
          exact .sa e e2 (Option.some.inj h)
      · rename_i e
        cases h
        exact .sb e
end L05
set_option Elab.async false
set_option linter.all false
set_option maxRecDepth 100000
set_option maxHeartbeats 1000000
set_option autoImplicit false
namespace L05
/-! texts cut into tokens: each token and where it begins -/
abbrev Tk := Sy × Nat
def Tk.fin (t : Tk) : Nat := t.2 + t.1.length
def lx : Nat → Nat → List Nat → List Tk
  | _, _, [] => []
  | p, k + 1, _ :: cs => lx (p + 1) k cs
  | p, 0, c :: cs => if letB c then (c :: cs.takeWhile alnB, p) :: lx (p + 1) (cs.takeWhile alnB).length cs else if c = 32 ∨ c = 10 then lx (p + 1) 0 cs else ([c], p) :: lx (p + 1) 0 cs
theorem lx_nil (p k : Nat) : lx p k [] = [] := by simp [lx]
theorem lx_skip : ∀ (l : List Nat) (p k : Nat), lx p k l = lx (p + k) 0 (l.drop k)
  | [], p, k => by simp [lx_nil]
  | c :: cs, p, 0 => rfl
  | c :: cs, p, k + 1 => by
    show lx (p + 1) k cs = _
    rw [lx_skip cs (p + 1) k, List.drop_succ_cons]
    congr 1
    omega
theorem lx_let {c : Nat} {cs : List Nat} {p : Nat} (h : letB c = true) : lx p 0 (c :: cs) = (c :: cs.takeWhile alnB, p) :: lx (p + 1) (cs.takeWhile alnB).length cs := by
  simp only [lx]
  rw [if_pos h]
theorem lx_sp {c : Nat} {cs : List Nat} {p : Nat} (h : letB c = false) (h2 : c = 32 ∨ c = 10) : lx p 0 (c :: cs) = lx (p + 1) 0 cs := by
  simp only [lx]
  rw [if_neg (by simp [h]), if_pos h2]
theorem lx_one {c : Nat} {cs : List Nat} {p : Nat} (h : letB c = false) (h2 : ¬ (c = 32 ∨ c = 10)) : lx p 0 (c :: cs) = ([c], p) :: lx (p + 1) 0 cs := by
  simp only [lx]
  rw [if_neg (by simp [h]), if_neg h2]
theorem sp_let {c : Nat} (h : c = 32 ∨ c = 10) : letB c = false := by rcases h with rfl | rfl <;> rfl
theorem sp_aln {c : Nat} (h : c = 32 ∨ c = 10) : alnB c = false := by rcases h with rfl | rfl <;> rfl
theorem tw_take : ∀ (l : List Nat) (m : Nat), (l.takeWhile alnB).length ≤ m → (l.take m).takeWhile alnB = l.takeWhile alnB
  | [], m, _ => by simp
  | c :: cs, 0, h => by
    have : ((c :: cs).takeWhile alnB) = [] := List.length_eq_zero_iff.mp (by omega)
    rw [this]; rfl
  | c :: cs, m + 1, h => by
    rw [List.take_succ_cons]
    by_cases hc : alnB c = true
    · rw [List.takeWhile_cons_of_pos hc] at h ⊢
      rw [List.takeWhile_cons_of_pos hc]
      rw [tw_take cs m (by simpa using h)]
    · rw [List.takeWhile_cons_of_neg hc, List.takeWhile_cons_of_neg hc]
/-- tokens of l, cut at p and skipping k -/
theorem lx_facts : ∀ (l : List Nat) (p k : Nat), (∀ t ∈ lx p k l, p + k ≤ t.2 ∧ t.1 ≠ [] ∧ t.fin ≤ p + l.length) ∧ (lx p k l).Pairwise (fun a b => a.fin ≤ b.2)
  | [], p, k => by simp [lx_nil]
  | c :: cs, p, k + 1 => by
    obtain ⟨a, b⟩ := lx_facts cs (p + 1) k
    refine ⟨fun t ht => ?_, b⟩
    obtain ⟨x, y, z⟩ := a t ht
    simp only [List.length_cons]
    exact ⟨by omega, y, by omega⟩
  | c :: cs, p, 0 => by
    by_cases h : letB c = true
    · rw [lx_let h]
      obtain ⟨a, b⟩ := lx_facts cs (p + 1) (cs.takeWhile alnB).length
      have hw : (cs.takeWhile alnB).length ≤ cs.length := (List.takeWhile_sublist _).length_le
      refine ⟨fun t ht => ?_, List.pairwise_cons.mpr ⟨fun t ht => ?_, b⟩⟩
      · rcases List.mem_cons.mp ht with rfl | ht
        · exact ⟨by simp, by simp, by simp only [Tk.fin, List.length_cons]; omega⟩
        · obtain ⟨x, y, z⟩ := a t ht
          simp only [List.length_cons]
          exact ⟨by omega, y, by omega⟩
      · obtain ⟨x, y, z⟩ := a t ht
        simp only [Tk.fin, List.length_cons]
        omega
    · have h : letB c = false := by simpa using h
      obtain ⟨a, b⟩ := lx_facts cs (p + 1) 0
      by_cases h2 : c = 32 ∨ c = 10
      · rw [lx_sp h h2]
        refine ⟨fun t ht => ?_, b⟩
        obtain ⟨x, y, z⟩ := a t ht
        simp only [List.length_cons]
        exact ⟨by omega, y, by omega⟩
      · rw [lx_one h h2]
        refine ⟨fun t ht => ?_, List.pairwise_cons.mpr ⟨fun t ht => ?_, b⟩⟩
        · rcases List.mem_cons.mp ht with rfl | ht
          · exact ⟨by simp, by simp, by simp only [Tk.fin, List.length_cons, List.length_nil]; omega⟩
          · obtain ⟨x, y, z⟩ := a t ht
            simp only [List.length_cons]
            exact ⟨by omega, y, by omega⟩
        · obtain ⟨x, y, z⟩ := a t ht
          simp only [Tk.fin, List.length_cons, List.length_nil]
          omega
theorem fin_gt {t : Tk} (h : t.1 ≠ []) : t.2 < t.fin := by
  have := List.length_pos_iff.mpr h
  simp only [Tk.fin]; omega
/-- the text cut at q, between two tokens -/
theorem lx_cut : ∀ (l : List Nat) (p k q i : Nat), p + k ≤ q → (∀ t ∈ (lx p k l).take i, t.fin ≤ q) → (∀ t ∈ (lx p k l).drop i, q ≤ t.2) → lx p k (l.take (q - p)) = (lx p k l).take i
  | [], p, k, q, i, _, _, _ => by simp [lx_nil]
  | c :: cs, p, k + 1, q, i, hq, h1, h2 => by
    rw [show q - p = (q - (p + 1)) + 1 by omega, List.take_succ_cons]
    exact lx_cut cs (p + 1) k q i (by omega) h1 h2
  | c :: cs, p, 0, q, i, hq, h1, h2 => by
    by_cases he : q = p
    · subst he
      simp only [Nat.sub_self, List.take_zero, lx_nil]
      match i, hl : lx q 0 (c :: cs) with
      | 0, _ => rfl
      | i + 1, [] => rfl
      | i + 1, t :: r =>
        rw [hl] at h1
        have a := h1 t (List.mem_cons_self ..)
        have b := (lx_facts (c :: cs) q 0).1 t (by rw [hl]; exact List.mem_cons_self ..)
        have := fin_gt b.2.1
        omega
    rw [show q - p = (q - (p + 1)) + 1 by omega, List.take_succ_cons]
    by_cases h : letB c = true
    · rw [lx_let h] at h1 h2 ⊢
      cases i with
      | zero =>
        have := h2 _ (List.mem_cons_self ..)
        simp only at this
        omega
      | succ i =>
        have a := h1 _ (List.mem_cons_self ..)
        simp only [Tk.fin, List.length_cons] at a
        rw [lx_let h, List.take_succ_cons, tw_take cs _ (by omega)]
        rw [lx_cut cs (p + 1) (cs.takeWhile alnB).length q i (by omega) (fun t ht => h1 t (by rw [List.take_succ_cons]; exact List.mem_cons_of_mem _ ht)) (fun t ht => h2 t (by rw [List.drop_succ_cons]; exact ht))]
    · have h : letB c = false := by simpa using h
      by_cases h3 : c = 32 ∨ c = 10
      · rw [lx_sp h h3] at h1 h2 ⊢
        rw [lx_sp h h3]
        exact lx_cut cs (p + 1) 0 q i (by omega) h1 h2
      · rw [lx_one h h3] at h1 h2 ⊢
        rw [lx_one h h3]
        cases i with
        | zero =>
          have := h2 _ (List.mem_cons_self ..)
          simp only at this
          omega
        | succ i =>
          rw [List.take_succ_cons]
          rw [lx_cut cs (p + 1) 0 q i (by omega) (fun t ht => h1 t (by rw [List.take_succ_cons]; exact List.mem_cons_of_mem _ ht)) (fun t ht => h2 t (by rw [List.drop_succ_cons]; exact ht))]
/-- two texts in a row -/
def Bd (a b : List Nat) : Prop := ∀ x ∈ a.getLast?, ∀ y ∈ b.head?, ¬ (alnB x = true ∧ alnB y = true)
theorem tw_app : ∀ (a b : List Nat) , (∀ x ∈ a.getLast?, ∀ y ∈ b.head?, ¬ (alnB x = true ∧ alnB y = true)) → (a = [] → ∀ y ∈ b.head?, alnB y = false) → (a ++ b).takeWhile alnB = a.takeWhile alnB
  | [], [], _, _ => rfl
  | [], y :: b, _, h => by
    have := h rfl y rfl
    rw [List.nil_append, List.takeWhile_cons_of_neg (by simp [this])]
    rfl
  | [x], b, h, _ => by
    show (x :: b).takeWhile alnB = _
    by_cases hx : alnB x = true
    · rw [List.takeWhile_cons_of_pos hx, List.takeWhile_cons_of_pos hx]
      congr 1
      cases b with
      | nil => rfl
      | cons y b =>
        rw [List.takeWhile_cons_of_neg (fun z => h x rfl y rfl ⟨hx, z⟩)]
        rfl
    · rw [List.takeWhile_cons_of_neg hx, List.takeWhile_cons_of_neg hx]
  | x :: x2 :: a, b, h, _ => by
    have ih := tw_app (x2 :: a) b (fun u hu => h u (by rw [List.getLast?_cons_cons]; exact hu)) (fun z => by cases z)
    show (x :: ((x2 :: a) ++ b)).takeWhile alnB = _
    by_cases hx : alnB x = true
    · rw [List.takeWhile_cons_of_pos hx, List.takeWhile_cons_of_pos hx, ih]
    · rw [List.takeWhile_cons_of_neg hx, List.takeWhile_cons_of_neg hx]
theorem lx_app : ∀ (a b : List Nat) (p k : Nat), k ≤ a.length → Bd a b → lx p k (a ++ b) = lx p k a ++ lx (p + a.length) 0 b
  | [], b, p, k, hk, _ => by
    have : k = 0 := by simpa using hk
    subst this
    simp [lx_nil]
  | c :: cs, b, p, k + 1, hk, hb => by
    have hb' : Bd cs b := by
      cases cs with
      | nil => intro x hx; cases hx
      | cons d cs => exact fun x hx => hb x (by rw [List.getLast?_cons_cons]; exact hx)
    show lx (p + 1) k (cs ++ b) = lx (p + 1) k cs ++ _
    rw [lx_app cs b (p + 1) k (by simpa using hk) hb']
    congr 2
    simp only [List.length_cons]; omega
  | c :: cs, b, p, 0, hk, hb => by
    have hb' : Bd cs b := by
      cases cs with
      | nil => intro x hx; cases hx
      | cons d cs => exact fun x hx => hb x (by rw [List.getLast?_cons_cons]; exact hx)
    have el : p + (c :: cs).length = p + 1 + cs.length := by simp only [List.length_cons]; omega
    rw [List.cons_append, el]
    by_cases h : letB c = true
    · have et : (cs ++ b).takeWhile alnB = cs.takeWhile alnB := tw_app cs b hb' fun e y hy => by
        subst e
        have := hb c rfl y hy
        simp only [alnB, h, Bool.true_or, true_and] at this
        simpa [alnB] using this
      have hw : (cs.takeWhile alnB).length ≤ cs.length := (List.takeWhile_sublist _).length_le
      rw [lx_let h, lx_let h, et, lx_app cs b _ _ hw hb']
      rfl
    · have h : letB c = false := by simpa using h
      by_cases h3 : c = 32 ∨ c = 10
      · rw [lx_sp h h3, lx_sp h h3, lx_app cs b _ _ (Nat.zero_le _) hb']
      · rw [lx_one h h3, lx_one h h3, lx_app cs b _ _ (Nat.zero_le _) hb']
        rfl
/-! texts of one token -/
def Wrd (s : Sy) : Prop := ∀ p, lx p 0 s = [(s, p)]
theorem tw_all : ∀ (l : List Nat), l.all alnB = true → l.takeWhile alnB = l
  | [], _ => rfl
  | c :: cs, h => by
    simp only [List.all_cons, Bool.and_eq_true] at h
    rw [List.takeWhile_cons_of_pos h.1, tw_all cs h.2]
theorem wrd_of {s : Sy} (h : ∃ c cs, s = c :: cs ∧ ((letB c = true ∧ cs.all alnB = true) ∨ (cs = [] ∧ c ≠ 32 ∧ c ≠ 10))) : Wrd s := by
  obtain ⟨c, cs, rfl, h⟩ := h
  intro p
  rcases h with ⟨h1, h2⟩ | ⟨rfl, h2, h3⟩
  · have e : cs.takeWhile alnB = cs := by
      exact tw_all cs h2
    rw [lx_let h1, e, lx_skip]
    simp [lx_nil]
  · by_cases h : letB c = true
    · rw [lx_let h]; simp [lx_nil]
    · rw [lx_one (by simpa using h) (by simp [h2, h3])]; simp [lx_nil]
theorem lx_gap {g : List Nat} (h : ∀ c ∈ g, c = 32 ∨ c = 10) : ∀ p (b : List Nat), lx p 0 (g ++ b) = lx (p + g.length) 0 b := by
  induction g with
  | nil => intro p b; rfl
  | cons c g ih =>
    intro p b
    have hc := h c (List.mem_cons_self ..)
    rw [List.cons_append, lx_sp (sp_let hc) hc, ih (fun x hx => h x (List.mem_cons_of_mem _ hx))]
    congr 1
    simp only [List.length_cons]; omega
def syms (t : List Nat) : List Sy := (lx 0 0 t).map (·.1)
theorem syms_put {t g : List Nat} {s : Sy} (hg : ∀ c ∈ g, c = 32 ∨ c = 10) (hs : Wrd s) (hb : g = [] → Bd t s) : syms (t ++ g ++ s) = syms t ++ [s] := by
  unfold syms
  have e : lx 0 0 (t ++ (g ++ s)) = lx 0 0 t ++ lx (0 + t.length) 0 (g ++ s) := lx_app t (g ++ s) 0 0 (Nat.zero_le _) (by
    cases g with
    | nil => exact hb rfl
    | cons c g =>
      intro x hx y hy z
      cases hy
      rw [sp_aln (hg c (List.mem_cons_self ..))] at z
      cases z.2)
  rw [List.append_assoc, e, lx_gap hg, hs, List.map_append]
  rfl
end L05
set_option Elab.async false
set_option linter.all false
set_option maxRecDepth 100000
set_option maxHeartbeats 1000000
set_option autoImplicit false
namespace L05
open GH PySem
/-! steps as equations -/
section
variable {n : Nat} {b : Stm} {args : List Val} {h h1 : Hv} {l' : GH.Loc}
theorem run_nx (e : b (args.map some ++ List.replicate (n - args.length) none) h = .nx l' h1) : runDef n b args h = .ok .non h1 := by simp only [runDef, e]
theorem run_rt {v : Val} (e : b (args.map some ++ List.replicate (n - args.length) none) h = .rt v h1) : runDef n b args h = .ok v h1 := by simp only [runDef, e]
theorem run_exc {x : Ex} (e : b (args.map some ++ List.replicate (n - args.length) none) h = .exc x l' h1) : runDef n b args h = .exc x h1 := by simp only [runDef, e]
end
section
variable {d : Den} {t : Tg} {a b rest : Stm} {l l1 : GH.Loc} {h h1 : Hv} {v : Val} {x : Ex} {tt : DenG Bool} {i : Nat}
theorem expr_eq (e : d l h = .ok v h1) : sSeq (sExpr d) rest l h = rest l h1 := by
  rw [e_seq, e_expr, e]
  rfl
theorem expr_ex (e : d l h = .exc x h1) : sSeq (sExpr d) rest l h = .exc x l h1 := by
  rw [e_seq, e_expr, e]
  rfl
theorem asg_eq (e : d l h = .ok v h1) (e2 : t v l h1 = .ok l1 h1) : sSeq (sAsg d t) rest l h = rest l1 h1 := by
  rw [e_seq, e_asg, e]
  simp [e2]
theorem set_eq (e : d l h = .ok v h1) : sSeq (sAsg d (gName i)) rest l h = rest (l.set i (some v)) h1 := asg_eq e rfl
theorem asg_ex (e : d l h = .exc x h1) : sSeq (sAsg d t) rest l h = .exc x l h1 := by
  rw [e_seq, e_asg, e]
  rfl
theorem ret_eq (e : d l h = .ok v h1) : sSeq (sRet d) rest l h = .rt v h1 := by
  rw [e_seq, e_ret, e]
  rfl
theorem ret_ex (e : d l h = .exc x h1) : sSeq (sRet d) rest l h = .exc x l h1 := by
  rw [e_seq, e_ret, e]
  rfl
theorem if_t (e : tt l h = .ok true h1) : sSeq (sIf tt a b) rest l h = (a l h1).andThen rest := by
  rw [e_seq, e_if, e]
  rfl
theorem if_f (e : tt l h = .ok false h1) : sSeq (sIf tt a sNext) rest l h = rest l h1 := by
  rw [e_seq, e_if, e]
  rfl
theorem if_e (e : tt l h = .ok false h1) : sSeq (sIf tt a b) rest l h = (b l h1).andThen rest := by
  rw [e_seq, e_if, e]
  rfl
theorem wh_f (e : tt l h = .ok false h1) : sWhile tt a l h = .nx l h1 := by
  rw [sWhile_eq, e]
  rfl
theorem wh_t (e : tt l h = .ok true h1) : sWhile tt a l h = (a l h1).turn (sWhile tt a) := by
  rw [sWhile_eq, e]
  rfl
end
theorem cut_mid {α : Type} (l : List α) (a b : Nat) : cut l (some (a : Int)) (some (b : Int)) = (l.drop a).take (b - a) := by
  unfold cut
  rw [HT.sIx_nat, HT.sIx_nat]
  by_cases h : a ≤ l.length
  · rw [Nat.min_eq_left h]
    by_cases h2 : b ≤ l.length
    · rw [Nat.min_eq_left h2]
    · rw [Nat.min_eq_right (by omega), List.take_of_length_le (by simp), List.take_of_length_le (by simp; omega)]
  · rw [Nat.min_eq_right (show l.length ≤ a by omega), List.drop_of_length_le (Nat.le_refl _), List.drop_of_length_le (show l.length ≤ a by omega)]
    simp
section
variable {t : List Nat} {h : Hv}
theorem cut_str (ht : t.length ≤ 100000) (a b : Nat) : vCut (.str t) (some (a : Int)) (some (b : Int)) h = .ok (.str ((t.drop a).take (b - a))) h := by
  simp only [vCut]
  rw [if_pos (show t.length ≤ lineN by unfold lineN; omega), cut_mid]
theorem cut_to (ht : t.length ≤ 100000) (b : Nat) : vCut (.str t) none (some (b : Int)) h = .ok (.str (t.take b)) h := by
  simp only [vCut]
  rw [if_pos (show t.length ≤ lineN by unfold lineN; omega), cut_take]
theorem cut_from (ht : t.length ≤ 100000) (b : Nat) : vCut (.str t) (some (b : Int)) none h = .ok (.str (t.drop b)) h := by
  simp only [vCut]
  rw [if_pos (show t.length ≤ lineN by unfold lineN; omega), cut_drop]
theorem len_str (ht : t.length ≤ 100000) : vLen (.str t) h = .ok (.int t.length) h := by
  simp only [vLen]
  rw [if_pos (show t.length ≤ lineN by unfold lineN; omega)]
theorem ix_str {p c : Nat} (ht : t.length ≤ 100000) (e : t[p]? = some c) : vIx (.str t) (.int p) h = .ok (.str [c]) h := by
  simp only [vIx]
  rw [if_pos (show t.length ≤ lineN by unfold lineN; omega), nth_nat e]
end
theorem in_str (s : List Nat) (c : Nat) (h : Hv) : vIn (.str [c]) (.str s) h = .ok (.bl (s.contains c)) h := rfl
theorem notIn_str (s : List Nat) (c : Nat) (h : Hv) : vNotIn (.str [c]) (.str s) h = .ok (.bl (!s.contains c)) h := rfl
abbrev LET : List Nat := [97, 98, 99, 100, 101, 102, 103, 104, 105, 106, 107, 108, 109, 110, 111, 112, 113, 114, 115, 116, 117, 118, 119, 120, 121, 122, 65, 66, 67, 68, 69, 70, 71, 72, 73, 74, 75, 76, 77, 78, 79, 80, 81, 82, 83, 84, 85, 86, 87, 88, 89, 90]
abbrev DIG : List Nat := [48, 49, 50, 51, 52, 53, 54, 55, 56, 57]
theorem has_of {L : List Nat} {f : Nat → Bool} (a : ∀ c < 128, L.contains c = f c) (b : L.all (fun c => decide (c < 128)) = true) (g : ∀ c, 128 ≤ c → f c = false) (c : Nat) : L.contains c = f c := by
  by_cases h : c < 128
  · exact a c h
  · rw [g c (by omega)]
    cases e : L.contains c with
    | false => rfl
    | true =>
      have := List.all_eq_true.mp b c (by simpa using e)
      simp only [decide_eq_true_eq] at this
      omega
theorem let_has (c : Nat) : LET.contains c = letB c := has_of (by decide +kernel) (by decide +kernel) (fun c h => by simp [letB]; omega) c
theorem dig_has (c : Nat) : DIG.contains c = digB c := has_of (by decide +kernel) (by decide +kernel) (fun c h => by simp [digB]; omega) c
theorem aln_has (c : Nat) : (LET ++ DIG).contains c = alnB c := has_of (by decide +kernel) (by decide +kernel) (fun c h => by simp [alnB, letB, digB]; omega) c
theorem okV_sub {t s : List Nat} (h : okV (.str t) = true) (hs : ∀ c ∈ s, c ∈ t) : okV (.str s) = true := by
  simp only [okV, List.all_eq_true] at h ⊢
  exact fun c hc => h c (hs c hc)
/-! tokens -/
def tkv (t : Tk) : Val := .tup [.str (kind t.1), .str t.1, .int t.2]
abbrev tCond : DenG Bool := (dAnd (dB (dBin vLt (dVar 4) (dLen (dVar 0)))) (dOr (dB (dBin vIn (dBin vIx (dVar 0) (dVar 4)) (dC (.str LET)))) (dB (dBin vIn (dBin vIx (dVar 0) (dVar 4)) (dC (.str DIG))))))
noncomputable abbrev tInner : Stm := (sWhile tCond (sSeq (sAug 4 vIAdd (dC (.int 1)))
    sNext))
theorem in_while {t : List Nat} (ht : t.length ≤ 100000) {r : Nat} {a c : Option Val} {h : Hv} : ∀ (d : List Nat) (e : Nat), t.drop e = d → tInner [some (.str t), some (.ref r), a, c, some (.int e)] h = .nx [some (.str t), some (.ref r), a, c, some (.int ((e + (d.takeWhile alnB).length : Nat) : Int))] h
  | [], e, hd => by
    have he : t.length ≤ e := by simpa using hd
    refine wh_f ?_
    simp only [e_and, e_b, e_bin, dVar, e_len, List.getElem?_cons_succ, List.getElem?_cons_zero, Res.bind_ok, len_str ht, vLt_int, resB_bl]
    rw [show decide ((e : Int) < (t.length : Nat)) = false by simp; omega]
    rfl
  | x :: d, e, hd => by
    have he : e < t.length := by
      have := congrArg List.length hd
      simp at this
      omega
    have hx : t[e]? = some x := by
      have := congrArg (·[0]?) hd
      simpa using this
    have hd' : t.drop (e + 1) = d := by
      rw [← List.drop_drop, hd]; rfl
    have ec : ∀ e' : Nat, e' = e → tCond [some (.str t), some (.ref r), a, c, some (.int e')] h = .ok (alnB x) h := by
      intro e' he'
      rw [he']
      simp only [tCond, e_and, e_b, e_bin, dVar, e_len, List.getElem?_cons_succ, List.getElem?_cons_zero, Res.bind_ok, len_str ht, vLt_int, resB_bl, e_or, ix_str ht hx, e_c, in_str, let_has, dig_has]
      rw [show decide ((e : Int) < (t.length : Nat)) = true by simp; omega]
      simp only [if_true, alnB]
      cases letB x <;> rfl
    by_cases ha : alnB x = true
    · unfold tInner
      rw [wh_t (by rw [ec e rfl, ha])]
      have ea : (sSeq (sAug 4 vIAdd (dC (.int 1))) sNext) [some (.str t), some (.ref r), a, c, some (.int e)] h = .nx [some (.str t), some (.ref r), a, c, some (.int ((e + 1 : Nat) : Int))] h := by
        simp [sAug, vIAdd]
      rw [ea, SRes.turn_nx]
      have ih := in_while ht (r := r) (a := a) (c := c) (h := h) d (e + 1) hd'
      unfold tInner at ih
      rw [ih, List.takeWhile_cons_of_pos ha]
      simp only [List.length_cons]
      rw [show e + 1 + (d.takeWhile alnB).length = e + ((d.takeWhile alnB).length + 1) by omega]
    · have ha' : alnB x = false := by simpa using ha
      unfold tInner
      rw [wh_f (by rw [ec e rfl, ha']), List.takeWhile_cons_of_neg ha]
      rfl
abbrev oCond : DenG Bool := (dB (dBin vLt (dVar 2) (dLen (dVar 0))))
abbrev WDSv : Val := .tup [.str [116, 114, 117, 101], .str [110, 111, 116], .str [97, 110, 100], .str [111, 114], .str [115, 111, 109, 101], .str [97, 108, 108], .str [105, 110], .str [105, 110, 115, 105, 100, 101], .str [98, 101, 108, 111, 119], .str [115, 97, 109, 101], .str [116, 111, 112], .str [99, 104, 105, 108, 100], .str [108, 97, 98, 101, 108]]
noncomputable abbrev oBody : Stm := (sSeq (sAsg (dBin vIx (dVar 0) (dVar 2)) (gName 3))
    (sSeq (sAsg (dBin vAdd (dVar 2) (dC (.int 1))) (gName 4))
    (sSeq (sIf (dB (dBin vIn (dVar 3) (dC (.str LET)))) (sSeq tInner
    (sSeq (sExpr (dMeth1 isLst vAppend (dVar 1) (dTup (dCons (dIf (dB (dBin vIn (dCut (dVar 0) (oSome (dVar 2)) (oSome (dVar 4))) (dC WDSv))) (dC (.str kWord)) (dC (.str kName))) (dCons (dCut (dVar 0) (oSome (dVar 2)) (oSome (dVar 4))) (dCons (dVar 2) dNil))))))
    sNext)) (sSeq (sIf (dOr (dB (dBin vIn (dVar 3) (dC (.str [40, 41, 44, 58])))) (dB (dBin vIn (dVar 3) (dC (.str [48, 49]))))) (sSeq (sExpr (dMeth1 isLst vAppend (dVar 1) (dTup (dCons (dC (.str kSign)) (dCons (dVar 3) (dCons (dVar 2) dNil))))))
    sNext) (sSeq (sIf (dAnd (dB (dBin vNe (dVar 3) (dC (.str [32])))) (dB (dBin vNe (dVar 3) (dC (.str [10]))))) (sSeq (sExpr (dMeth1 isLst vAppend (dVar 1) (dTup (dCons (dC (.str kWrong)) (dCons (dVar 3) (dCons (dVar 2) dNil))))))
    sNext) sNext)
    sNext))
    sNext))
    (sSeq (sAsg (dVar 4) (gName 2))
    sNext))))
theorem mk3 (a b c : Val) (h : Hv) : mkTup [a, b, c] h = .ok (.tup [a, b, c]) h := by simp [mkTup, lineN]
theorem app_at {r : Nat} {h : Hv} {L : List Val} {v : Val} (hr : h.length = r) (hl : L.length < 16777216) : vAppend (.ref r) v (h ++ [.lst L]) = .ok .non (h ++ [.lst (L ++ [v])]) := by
  subst hr
  rw [append_ref (l := L) (by simp) hl]
  simp
theorem isL_at {r : Nat} {h : Hv} {L : List Val} (hr : h.length = r) : isLst (h ++ [.lst L]) (.ref r) = true := by
  subst hr
  exact isLst_ref (l := L) (by simp)
theorem tw_eq (cs : List Nat) : cs.take (cs.takeWhile alnB).length = cs.takeWhile alnB := by
  induction cs with
  | nil => rfl
  | cons c cs ih =>
    by_cases h : alnB c = true
    · rw [List.takeWhile_cons_of_pos h, List.length_cons, List.take_succ_cons, ih]
    · rw [List.takeWhile_cons_of_neg h]; rfl
theorem o_step {t : List Nat} (ht : t.length ≤ 100000) (ot : okV (.str t) = true) {r : Nat} {c0 e0 : Option Val} {h : Hv} (hr : h.length = r) {L : List Val} {p c : Nat} {cs : List Nat} (hd : t.drop p = c :: cs) (hL : L.length ≤ p) :
    ∃ (q : Nat) (c1 e1 : Option Val) (M : List Tk), p < q ∧ q ≤ t.length ∧ M.length ≤ 1 ∧ lx p 0 (c :: cs) = M ++ lx q 0 (t.drop q) ∧
      oBody [some (.str t), some (.ref r), some (.int p), c0, e0] (h ++ [.lst L]) = .nx [some (.str t), some (.ref r), some (.int q), c1, e1] (h ++ [.lst (L ++ M.map tkv)]) := by
  have hp : p < t.length := by
    have := congrArg List.length hd
    simp at this
    omega
  have hx : t[p]? = some c := by
    have := congrArg (·[0]?) hd
    simpa using this
  have hd' : t.drop (p + 1) = cs := by
    rw [← List.drop_drop, hd]; rfl
  have hcs : cs.length = t.length - (p + 1) := by rw [← hd']; simp
  have st : oBody [some (.str t), some (.ref r), some (.int p), c0, e0] (h ++ [.lst L]) = (sSeq (sIf (dB (dBin vIn (dVar 3) (dC (.str LET)))) (sSeq tInner
    (sSeq (sExpr (dMeth1 isLst vAppend (dVar 1) (dTup (dCons (dIf (dB (dBin vIn (dCut (dVar 0) (oSome (dVar 2)) (oSome (dVar 4))) (dC WDSv))) (dC (.str kWord)) (dC (.str kName))) (dCons (dCut (dVar 0) (oSome (dVar 2)) (oSome (dVar 4))) (dCons (dVar 2) dNil))))))
    sNext)) (sSeq (sIf (dOr (dB (dBin vIn (dVar 3) (dC (.str [40, 41, 44, 58])))) (dB (dBin vIn (dVar 3) (dC (.str [48, 49]))))) (sSeq (sExpr (dMeth1 isLst vAppend (dVar 1) (dTup (dCons (dC (.str kSign)) (dCons (dVar 3) (dCons (dVar 2) dNil))))))
    sNext) (sSeq (sIf (dAnd (dB (dBin vNe (dVar 3) (dC (.str [32])))) (dB (dBin vNe (dVar 3) (dC (.str [10]))))) (sSeq (sExpr (dMeth1 isLst vAppend (dVar 1) (dTup (dCons (dC (.str kWrong)) (dCons (dVar 3) (dCons (dVar 2) dNil))))))
    sNext) sNext)
    sNext))
    sNext))
    (sSeq (sAsg (dVar 4) (gName 2))
    sNext)) [some (.str t), some (.ref r), some (.int p), some (.str [c]), some (.int ((p + 1 : Nat) : Int))] (h ++ [.lst L]) := by
    unfold oBody
    rw [set_eq (v := .str [c]) (h1 := h ++ [.lst L]) (by simp only [e_bin, dVar, List.getElem?_cons_succ, List.getElem?_cons_zero, Res.bind_ok, ix_str ht hx]),
      set_eq (v := .int ((p + 1 : Nat) : Int)) (h1 := h ++ [.lst L]) (by simp [dVar])]
    rfl
  have cLet : ∀ e1 : Option Val, dB (dBin vIn (dVar 3) (dC (.str LET))) [some (.str t), some (.ref r), some (.int p), some (.str [c]), e1] (h ++ [.lst L]) = .ok (letB c) (h ++ [.lst L]) := fun e1 => by
    simp only [e_b, e_bin, dVar, List.getElem?_cons_succ, List.getElem?_cons_zero, Res.bind_ok, e_c, in_str, let_has, resB_bl]
  by_cases hl : letB c = true
  · refine ⟨p + 1 + (cs.takeWhile alnB).length, some (.str [c]), some (.int ((p + 1 + (cs.takeWhile alnB).length : Nat) : Int)), [(c :: cs.takeWhile alnB, p)], by omega, ?_, by simp, ?_, ?_⟩
    · have : (cs.takeWhile alnB).length ≤ cs.length := (List.takeWhile_sublist _).length_le
      omega
    · rw [lx_let hl, lx_skip, ← hd', List.drop_drop]
      rfl
    · rw [st, if_t (by rw [cLet, hl]), e_seq, in_while ht cs (p + 1) hd', SRes.andThen_nx]
      have ew : (t.drop p).take (p + 1 + (cs.takeWhile alnB).length - p) = c :: cs.takeWhile alnB := by
        rw [hd, show p + 1 + (cs.takeWhile alnB).length - p = (cs.takeWhile alnB).length + 1 by omega, List.take_succ_cons, tw_eq]
      have ok1 : okV (.str (c :: cs.takeWhile alnB)) = true := okV_sub ot fun x hx => by
        rw [← ew] at hx
        exact List.mem_of_mem_drop (List.mem_of_mem_take hx)
      have ex : dMeth1 isLst vAppend (dVar 1) (dTup (dCons (dIf (dB (dBin vIn (dCut (dVar 0) (oSome (dVar 2)) (oSome (dVar 4))) (dC WDSv))) (dC (.str kWord)) (dC (.str kName))) (dCons (dCut (dVar 0) (oSome (dVar 2)) (oSome (dVar 4))) (dCons (dVar 2) dNil)))) [some (.str t), some (.ref r), some (.int p), some (.str [c]), some (.int ((p + 1 + (cs.takeWhile alnB).length : Nat) : Int))] (h ++ [.lst L]) = .ok .non (h ++ [.lst (L ++ [tkv (c :: cs.takeWhile alnB, p)])]) := by
        simp only [e_meth1, dVar, List.getElem?_cons_succ, List.getElem?_cons_zero, Res.bind_ok, isL_at hr, if_true, e_tup, e_cons, e_nil, e_dif, e_b, e_bin, e_cut, e_osome, cut_str ht, ew, e_c]
        rw [show vIn (.str (c :: cs.takeWhile alnB)) WDSv (h ++ [.lst L]) = .ok (.bl (decide ((c :: cs.takeWhile alnB) ∈ WDS))) (h ++ [.lst L]) from vIn_tupTxt (L := WDS) ok1 (by decide +kernel) _]
        have ek : kind (c :: cs.takeWhile alnB) = if (c :: cs.takeWhile alnB) ∈ WDS then kWord else kName := by
          simp only [kind, hl, if_true]
        simp only [resB_bl, Res.bind_ok, tkv, ek]
        by_cases hw : (c :: cs.takeWhile alnB) ∈ WDS
        · simp only [hw, decide_true, if_true, Res.bind_ok, mk3]
          exact app_at hr (by omega)
        · simp only [hw, decide_false, if_false, Bool.false_eq_true, Res.bind_ok, mk3]
          exact app_at hr (by omega)
      rw [expr_eq ex, e_next, SRes.andThen_nx, set_eq (v := .int ((p + 1 + (cs.takeWhile alnB).length : Nat) : Int)) (h1 := h ++ [.lst (L ++ [tkv (c :: cs.takeWhile alnB, p)])]) rfl]
      rfl
  · have hl' : letB c = false := by simpa using hl
    have fin : ∀ (M : List Val), (sSeq (sAsg (dVar 4) (gName 2)) sNext) [some (.str t), some (.ref r), some (.int p), some (.str [c]), some (.int ((p + 1 : Nat) : Int))] (h ++ [.lst M]) = .nx [some (.str t), some (.ref r), some (.int ((p + 1 : Nat) : Int)), some (.str [c]), some (.int ((p + 1 : Nat) : Int))] (h ++ [.lst M]) := fun M => by
      rw [set_eq (v := .int ((p + 1 : Nat) : Int)) (h1 := h ++ [.lst M]) rfl]
      rfl
    have ap : ∀ (kk : Sy), dMeth1 isLst vAppend (dVar 1) (dTup (dCons (dC (.str kk)) (dCons (dVar 3) (dCons (dVar 2) dNil)))) [some (.str t), some (.ref r), some (.int p), some (.str [c]), some (.int ((p + 1 : Nat) : Int))] (h ++ [.lst L]) = .ok .non (h ++ [.lst (L ++ [.tup [.str kk, .str [c], .int p]])]) := fun kk => by
      simp only [e_meth1, dVar, List.getElem?_cons_succ, List.getElem?_cons_zero, Res.bind_ok, isL_at hr, if_true, e_tup, e_cons, e_nil, e_c, mk3]
      exact app_at hr (by omega)
    rw [st, if_e (by rw [cLet, hl'])]
    by_cases hs : c ∈ [40, 41, 44, 58, 48, 49]
    · have hsp : ¬ (c = 32 ∨ c = 10) := by
        simp only [List.mem_cons, List.not_mem_nil, or_false] at hs
        omega
      refine ⟨p + 1, some (.str [c]), some (.int ((p + 1 : Nat) : Int)), [([c], p)], by omega, by omega, by simp, by rw [lx_one hl' hsp, hd']; rfl, ?_⟩
      have cs1 : dOr (dB (dBin vIn (dVar 3) (dC (.str [40, 41, 44, 58])))) (dB (dBin vIn (dVar 3) (dC (.str [48, 49])))) [some (.str t), some (.ref r), some (.int p), some (.str [c]), some (.int ((p + 1 : Nat) : Int))] (h ++ [.lst L]) = .ok true (h ++ [.lst L]) := by
        simp only [e_or, e_b, e_bin, dVar, List.getElem?_cons_succ, List.getElem?_cons_zero, Res.bind_ok, e_c, in_str, resB_bl]
        simp only [List.mem_cons, List.not_mem_nil, or_false] at hs
        rcases hs with rfl | rfl | rfl | rfl | rfl | rfl <;> rfl
      rw [if_t cs1, expr_eq (ap kSign), e_next, SRes.andThen_nx, e_next, SRes.andThen_nx, fin]
      have ek : kind [c] = kSign := by
        simp only [kind, hl', Bool.false_eq_true, if_false, hs, if_true]
      simp only [List.map_cons, List.map_nil, tkv, ek]
    · have cs1 : dOr (dB (dBin vIn (dVar 3) (dC (.str [40, 41, 44, 58])))) (dB (dBin vIn (dVar 3) (dC (.str [48, 49])))) [some (.str t), some (.ref r), some (.int p), some (.str [c]), some (.int ((p + 1 : Nat) : Int))] (h ++ [.lst L]) = .ok false (h ++ [.lst L]) := by
        simp only [e_or, e_b, e_bin, dVar, List.getElem?_cons_succ, List.getElem?_cons_zero, Res.bind_ok, e_c, in_str, resB_bl]
        simp only [List.mem_cons, List.not_mem_nil, or_false, not_or] at hs
        have e1 : List.contains [40, 41, 44, 58] c = false := by simp; omega
        have e2 : List.contains [48, 49] c = false := by simp; omega
        rw [e1, e2]
        simp
      have cs2 : dAnd (dB (dBin vNe (dVar 3) (dC (.str [32])))) (dB (dBin vNe (dVar 3) (dC (.str [10])))) [some (.str t), some (.ref r), some (.int p), some (.str [c]), some (.int ((p + 1 : Nat) : Int))] (h ++ [.lst L]) = .ok (!decide (c = 32 ∨ c = 10)) (h ++ [.lst L]) := by
        simp only [e_and, e_b, e_bin, dVar, List.getElem?_cons_succ, List.getElem?_cons_zero, Res.bind_ok, e_c, vNe_str, resB_bl]
        by_cases h1 : c = 32
        · subst h1; rfl
        · by_cases h2 : c = 10
          · subst h2; rfl
          · simp [h1, h2]
      rw [if_e cs1]
      by_cases hsp : c = 32 ∨ c = 10
      · refine ⟨p + 1, some (.str [c]), some (.int ((p + 1 : Nat) : Int)), [], by omega, by omega, by simp, by rw [lx_sp hl' hsp, hd']; rfl, ?_⟩
        rw [if_f (h1 := h ++ [.lst L]) (by rw [cs2]; simp only [hsp, decide_true, Bool.not_true]), e_next, SRes.andThen_nx, e_next, SRes.andThen_nx, fin]
        simp
      · refine ⟨p + 1, some (.str [c]), some (.int ((p + 1 : Nat) : Int)), [([c], p)], by omega, by omega, by simp, by rw [lx_one hl' hsp, hd']; rfl, ?_⟩
        rw [if_t (h1 := h ++ [.lst L]) (by rw [cs2]; simp only [hsp, decide_false, Bool.not_false]), expr_eq (ap kWrong), e_next, SRes.andThen_nx, e_next, SRes.andThen_nx, e_next, SRes.andThen_nx, fin]
        have ek : kind [c] = kWrong := by
          simp only [kind, hl', Bool.false_eq_true, if_false, hs]
        simp only [List.map_cons, List.map_nil, tkv, ek]
theorem o_while {t : List Nat} (ht : t.length ≤ 100000) (ot : okV (.str t) = true) {r : Nat} {h : Hv} (hr : h.length = r) : ∀ (n : Nat) (p : Nat) (L : List Val) (c0 e0 : Option Val), t.length - p ≤ n → L.length ≤ p →
    ∃ (l : GH.Loc), sWhile oCond oBody [some (.str t), some (.ref r), some (.int p), c0, e0] (h ++ [.lst L]) = .nx l (h ++ [.lst (L ++ (lx p 0 (t.drop p)).map tkv)]) ∧ l[1]? = some (some (.ref r)) := by
  intro n
  induction n with
  | zero =>
    intro p L c0 e0 hn hL
    refine ⟨[some (.str t), some (.ref r), some (.int p), c0, e0], ?_, rfl⟩
    rw [wh_f (h1 := h ++ [.lst L]) (by
      simp only [oCond, e_b, e_bin, dVar, e_len, List.getElem?_cons_succ, List.getElem?_cons_zero, Res.bind_ok, len_str ht, vLt_int, resB_bl]
      rw [show decide ((p : Int) < (t.length : Nat)) = false by simp; omega]), List.drop_of_length_le (by omega), lx_nil]
    simp
  | succ n ih =>
    intro p L c0 e0 hn hL
    by_cases hp : p < t.length
    · obtain ⟨c, cs, hd⟩ : ∃ c cs, t.drop p = c :: cs := by
        cases e : t.drop p with
        | nil => simp at e; omega
        | cons c cs => exact ⟨c, cs, rfl⟩
      obtain ⟨q, c1, e1, M, h1, h2, h3, h4, h5⟩ := o_step ht ot hr hd hL (c0 := c0) (e0 := e0)
      obtain ⟨l, e6, e7⟩ := ih q (L ++ M.map tkv) c1 e1 (by omega) (by simp; omega)
      refine ⟨l, ?_, e7⟩
      rw [wh_t (h1 := h ++ [.lst L]) (by
        simp only [oCond, e_b, e_bin, dVar, e_len, List.getElem?_cons_succ, List.getElem?_cons_zero, Res.bind_ok, len_str ht, vLt_int, resB_bl]
        rw [show decide ((p : Int) < (t.length : Nat)) = true by simp; omega]), h5, SRes.turn_nx, e6, hd, h4]
      simp
    · refine ⟨[some (.str t), some (.ref r), some (.int p), c0, e0], ?_, rfl⟩
      rw [wh_f (h1 := h ++ [.lst L]) (by
        simp only [oCond, e_b, e_bin, dVar, e_len, List.getElem?_cons_succ, List.getElem?_cons_zero, Res.bind_ok, len_str ht, vLt_int, resB_bl]
        rw [show decide ((p : Int) < (t.length : Nat)) = false by simp; omega]), List.drop_of_length_le (by omega), lx_nil]
      simp
theorem lx_mem : ∀ (l : List Nat) (p k : Nat), ∀ t ∈ lx p k l, ∀ c ∈ t.1, c ∈ l
  | [], p, k, t, ht => by rw [lx_nil] at ht; cases ht
  | c :: cs, p, k + 1, t, ht => fun x hx => List.mem_cons_of_mem _ (lx_mem cs (p + 1) k t ht x hx)
  | c :: cs, p, 0, t, ht => by
    by_cases h : letB c = true
    · rw [lx_let h] at ht
      rcases List.mem_cons.mp ht with rfl | ht
      · intro x hx
        rcases List.mem_cons.mp hx with rfl | hx
        · exact List.mem_cons_self ..
        · exact List.mem_cons_of_mem _ ((List.takeWhile_sublist _).subset hx)
      · exact fun x hx => List.mem_cons_of_mem _ (lx_mem cs _ _ t ht x hx)
    · have h : letB c = false := by simpa using h
      by_cases h2 : c = 32 ∨ c = 10
      · rw [lx_sp h h2] at ht
        exact fun x hx => List.mem_cons_of_mem _ (lx_mem cs _ _ t ht x hx)
      · rw [lx_one h h2] at ht
        rcases List.mem_cons.mp ht with rfl | ht
        · intro x hx
          rcases List.mem_cons.mp hx with rfl | hx
          · exact List.mem_cons_self ..
          · cases hx
        · exact fun x hx => List.mem_cons_of_mem _ (lx_mem cs _ _ t ht x hx)
theorem kind_ok (s : Sy) : okV (.str (kind s)) = true := by
  have h : kind s = kWrong ∨ kind s = kWord ∨ kind s = kName ∨ kind s = kSign := by
    cases s with
    | nil => exact .inl rfl
    | cons c s =>
      simp only [kind]
      by_cases h1 : letB c = true
      · by_cases h2 : (c :: s) ∈ WDS
        · rw [if_pos h1, if_pos h2]; exact .inr (.inl rfl)
        · rw [if_pos h1, if_neg h2]; exact .inr (.inr (.inl rfl))
      · by_cases h2 : c ∈ [40, 41, 44, 58, 48, 49]
        · rw [if_neg h1, if_pos h2]; exact .inr (.inr (.inr rfl))
        · rw [if_neg h1, if_neg h2]; exact .inl rfl
  rcases h with h | h | h | h <;> rw [h] <;> decide +kernel
theorem okVs_tk {t : List Nat} (ot : okV (.str t) = true) : ∀ (L : List Tk), (∀ x ∈ L, ∀ c ∈ x.1, c ∈ t) → okVs (L.map tkv) = true
  | [], _ => rfl
  | x :: L, h => by
    simp only [List.map_cons, okVs, okVs_tk ot L fun y hy => h y (List.mem_cons_of_mem _ hy), Bool.and_true]
    have := kind_ok x.1
    have h2 := okV_sub ot (h x (List.mem_cons_self ..))
    simp only [tkv, okV, okVs, Bool.and_true] at this h2 ⊢
    rw [this, h2]
    rfl
theorem tokens_a {t : List Nat} (ht : t.length ≤ 100000) (ot : okV (.str t) = true) {k : Nat} {h : Hv} : lev D (k + 1) 1 [.str t] h = .ok (.lst ((lx 0 0 t).map tkv)) h := by
  refine eq_of ?_
  show ok (tidy (runDef 5 (b_tokens (lev D k)) [.str t] h) h) _
  refine tidy_lst ?_
  obtain ⟨l, e1, e2⟩ := o_while ht ot (r := h.length) (h := h) rfl t.length 0 [] none none (by omega) (by simp)
  have run : b_tokens (lev D k) [some (.str t), none, none, none, none] h = .rt (.ref h.length) (h ++ [.lst ((lx 0 0 t).map tkv)]) := by
    unfold b_tokens
    rw [set_eq (v := .ref h.length) (h1 := h ++ [.lst []]) (by simp [mkRef]), set_eq (v := .int 0) (h1 := h ++ [.lst []]) rfl]
    show sSeq (sWhile oCond oBody) _ _ _ = _
    rw [e_seq]
    rw [show (([some (Val.str t), none, none, none, none] : GH.Loc).set 1 (some (Val.ref h.length))).set 2 (some (Val.int 0)) = [some (.str t), some (.ref h.length), some (.int ((0 : Nat) : Int)), none, none] from rfl, e1, SRes.andThen_nx]
    exact ret_eq (v := .ref h.length) (by simp only [dVar, e2]; rfl)
  rw [run_rt run]
  exact ⟨_, h.length, (lx 0 0 t).map tkv, rfl, rfl, Nat.le_refl _, by simp, okVs_tk ot _ (lx_mem t 0 0), rfl, rfl⟩
end L05
set_option Elab.async false
set_option linter.all false
set_option maxRecDepth 100000
set_option maxHeartbeats 1000000
set_option autoImplicit false
namespace L05
open GH PySem
/-! the tokens of the law -/
def fv (t : Tk) : Val := .tup [.int t.2, .int t.fin]
theorem for_nil {t : Tg} {b : Stm} {it : List Val} {l : GH.Loc} {h : Hv} : forL t b (it, none) [] l h = .nx l h := by
  simp [forL]
theorem for_cons {t : Tg} {b : Stm} {it r : List Val} {x : Val} {l l1 : GH.Loc} {h : Hv} (e : t x l h = .ok l1 h) : forL t b (it, none) (x :: r) l h = (b l1 h).turn (forL t b (it, none) r) := by
  simp only [forL, srcOk_none, if_true, e]
theorem range_succ (k m : Nat) : rangeL (k : Int) (m + 1) = .int (k : Int) :: rangeL ((k + 1 : Nat) : Int) m := by
  unfold rangeL
  rw [List.range_succ_eq_map, List.map_cons, List.map_map]
  have e : (List.range m).map ((fun i : Nat => Val.int ((k : Int) + (i : Nat))) ∘ Nat.succ) = (List.range m).map fun i : Nat => Val.int (((k + 1 : Nat) : Int) + (i : Nat)) := List.map_congr_left fun i _ => by
    simp only [Function.comp]
    congr 1
    omega
  rw [e]
  simp
noncomputable abbrev iBd : Stm := (sSeq (sIf (dB (dBin vNotIn (dVar 5) (dBin vAdd (dVar 3) (dC (.str DIG))))) (sSeq sBreak
    sNext) sNext)
    (sSeq (sAsg (dBin vAdd (dVar 2) (dC (.int 1))) (gName 2))
    sNext))
theorem add_LD (h : Hv) : vAdd (.str LET) (.str DIG) h = .ok (.str (LET ++ DIG)) h := by simp [vAdd, lineN]
theorem i_for {t : List Nat} {r : Nat} {k4 : Option Val} {h : Hv} {it : List Val} : ∀ (d : List Nat) (a : Nat) (c5 : Option Val), ∃ c6, forL (gName 5) iBd (it, none) (d.map fun c => .str [c]) [some (.str t), some (.ref r), some (.int a), some (.str LET), k4, c5] h
    = .nx [some (.str t), some (.ref r), some (.int ((a + (d.takeWhile alnB).length : Nat) : Int)), some (.str LET), k4, c6] h
  | [], a, c5 => ⟨c5, for_nil⟩
  | c :: d, a, c5 => by
    have ec : dB (dBin vNotIn (dVar 5) (dBin vAdd (dVar 3) (dC (.str DIG)))) [some (.str t), some (.ref r), some (.int a), some (.str LET), k4, some (.str [c])] h = .ok (!alnB c) h := by
      simp only [e_b, e_bin, dVar, List.getElem?_cons_succ, List.getElem?_cons_zero, Res.bind_ok, e_c, add_LD, notIn_str, aln_has, resB_bl]
    rw [List.map_cons, for_cons (l1 := [some (.str t), some (.ref r), some (.int a), some (.str LET), k4, some (.str [c])]) rfl]
    unfold iBd
    by_cases ha : alnB c = true
    · obtain ⟨c6, ih⟩ := i_for (t := t) (r := r) (k4 := k4) (h := h) (it := it) d (a + 1) (some (.str [c]))
      refine ⟨c6, ?_⟩
      rw [if_f (h1 := h) (by rw [ec, ha]; rfl), set_eq (v := .int ((a + 1 : Nat) : Int)) (h1 := h) (by simp [dVar])]
      rw [e_next, SRes.turn_nx]
      refine Eq.trans ih ?_
      rw [List.takeWhile_cons_of_pos ha, List.length_cons]
      rw [show a + 1 + (d.takeWhile alnB).length = a + ((d.takeWhile alnB).length + 1) by omega]
    · have ha' : alnB c = false := by simpa using ha
      refine ⟨some (.str [c]), ?_⟩
      rw [if_t (h1 := h) (by rw [ec, ha']; rfl), List.takeWhile_cons_of_neg ha]
      rfl
noncomputable abbrev lBd : Stm := (sSeq (sIf (dOr (dB (dBin vLt (dVar 4) (dVar 2))) (dOr (dB (dBin vEq (dBin vIx (dVar 0) (dVar 4)) (dC (.str [32])))) (dB (dBin vEq (dBin vIx (dVar 0) (dVar 4)) (dC (.str [10])))))) (sSeq sCont
    sNext) sNext)
    (sSeq (sAsg (dBin vAdd (dVar 4) (dC (.int 1))) (gName 2))
    (sSeq (sIf (dB (dBin vIn (dBin vIx (dVar 0) (dVar 4)) (dVar 3))) (sSeq (sFor (iSeq (dCut (dVar 0) (oSome (dBin vAdd (dVar 4) (dC (.int 1)))) oNone)) (gName 5) iBd)
    sNext) sNext)
    (sSeq (sExpr (dMeth1 isLst vAppend (dVar 1) (dTup (dCons (dVar 4) (dCons (dVar 2) dNil)))))
    sNext))))
theorem mk2 (a b : Val) (h : Hv) : mkTup [a, b] h = .ok (.tup [a, b]) h := by simp [mkTup, lineN]
theorem l_for {t : List Nat} (ht : t.length ≤ 100000) {r : Nat} {h : Hv} (hr : h.length = r) {it : List Val} : ∀ (m k a : Nat) (L : List Val) (k4 c5 : Option Val), k + m = t.length → L.length ≤ k →
    ∃ l, forL (gName 4) lBd (it, none) (rangeL k m) [some (.str t), some (.ref r), some (.int a), some (.str LET), k4, c5] (h ++ [.lst L]) = .nx l (h ++ [.lst (L ++ (lx k (a - k) (t.drop k)).map fv)]) ∧ l[1]? = some (some (.ref r)) := by
  intro m
  induction m with
  | zero =>
    intro k a L k4 c5 hk hL
    refine ⟨[some (.str t), some (.ref r), some (.int a), some (.str LET), k4, c5], ?_, ?_⟩
    · rw [List.drop_of_length_le (by omega), lx_nil]
      simp [rangeL, forL]
    · rfl
  | succ m ih =>
    intro k a L k4 c5 hk hL
    have hp : k < t.length := by omega
    obtain ⟨c, cs, hd⟩ : ∃ c cs, t.drop k = c :: cs := by
      cases e : t.drop k with
      | nil => simp at e; omega
      | cons c cs => exact ⟨c, cs, rfl⟩
    have hx : t[k]? = some c := by
      have := congrArg (·[0]?) hd
      simpa using this
    have hd' : t.drop (k + 1) = cs := by
      rw [← List.drop_drop, hd]; rfl
    rw [range_succ, for_cons (l1 := [some (.str t), some (.ref r), some (.int a), some (.str LET), some (.int k), c5]) rfl, hd]
    unfold lBd
    have ec : dOr (dB (dBin vLt (dVar 4) (dVar 2))) (dOr (dB (dBin vEq (dBin vIx (dVar 0) (dVar 4)) (dC (.str [32])))) (dB (dBin vEq (dBin vIx (dVar 0) (dVar 4)) (dC (.str [10]))))) [some (.str t), some (.ref r), some (.int a), some (.str LET), some (.int k), c5] (h ++ [.lst L])
        = .ok (decide (k < a) || decide (c = 32 ∨ c = 10)) (h ++ [.lst L]) := by
      simp only [e_or, e_b, e_bin, dVar, List.getElem?_cons_succ, List.getElem?_cons_zero, Res.bind_ok, vLt_int, resB_bl, ix_str ht hx, e_c, vEq_str]
      by_cases h1 : k < a
      · have : decide ((k : Int) < (a : Nat)) = true := by simp; omega
        rw [this]
        simp [h1]
      · have : decide ((k : Int) < (a : Nat)) = false := by simp; omega
        rw [this]
        by_cases h2 : c = 32
        · subst h2; simp
        · by_cases h3 : c = 10
          · subst h3; simp
          · simp [h1, h2, h3]
    by_cases h1 : k < a
    · obtain ⟨l, e1, e2⟩ := ih (k + 1) a L (some (.int k)) c5 (by omega) (by omega)
      refine ⟨l, ?_, e2⟩
      rw [if_t (h1 := h ++ [.lst L]) (by rw [ec]; simp [h1]), e_seq, e_cont]
      refine Eq.trans e1 ?_
      rw [hd', show a - k = (a - (k + 1)) + 1 by omega]
      rfl
    rw [show a - k = 0 by omega]
    by_cases h2 : c = 32 ∨ c = 10
    · obtain ⟨l, e1, e2⟩ := ih (k + 1) a L (some (.int k)) c5 (by omega) (by omega)
      refine ⟨l, ?_, e2⟩
      rw [if_t (h1 := h ++ [.lst L]) (by rw [ec]; simp [h2]), e_seq, e_cont]
      refine Eq.trans e1 ?_
      rw [hd', lx_sp (sp_let h2) h2, show a - (k + 1) = 0 by omega]
    · have e0 : decide (k < a) = false := by simpa using h1
      rw [if_f (h1 := h ++ [.lst L]) (by rw [ec, e0]; simp only [h2, decide_false, Bool.or_false]), set_eq (v := .int ((k + 1 : Nat) : Int)) (h1 := h ++ [.lst L]) (by simp [dVar])]
      have el : dB (dBin vIn (dBin vIx (dVar 0) (dVar 4)) (dVar 3)) [some (.str t), some (.ref r), some (.int ((k + 1 : Nat) : Int)), some (.str LET), some (.int k), c5] (h ++ [.lst L]) = .ok (letB c) (h ++ [.lst L]) := by
        simp only [e_b, e_bin, dVar, List.getElem?_cons_succ, List.getElem?_cons_zero, Res.bind_ok, ix_str ht hx, in_str, let_has, resB_bl]
      have fin : ∀ (a' : Nat) (c6 : Option Val), (sSeq (sExpr (dMeth1 isLst vAppend (dVar 1) (dTup (dCons (dVar 4) (dCons (dVar 2) dNil))))) sNext) [some (.str t), some (.ref r), some (.int a'), some (.str LET), some (.int k), c6] (h ++ [.lst L])
          = .nx [some (.str t), some (.ref r), some (.int a'), some (.str LET), some (.int k), c6] (h ++ [.lst (L ++ [.tup [.int k, .int a']])]) := fun a' c6 => by
        refine expr_eq (v := .non) ?_
        simp only [e_meth1, dVar, List.getElem?_cons_succ, List.getElem?_cons_zero, Res.bind_ok, isL_at hr, if_true, e_tup, e_cons, e_nil, mk2]
        exact app_at hr (by omega)
      simp only [List.set_cons_succ, List.set_cons_zero]
      by_cases hl : letB c = true
      · have ei : (iSeq (dCut (dVar 0) (oSome (dBin vAdd (dVar 4) (dC (.int 1)))) oNone)) [some (.str t), some (.ref r), some (.int ((k + 1 : Nat) : Int)), some (.str LET), some (.int k), c5] (h ++ [.lst L]) = .ok (cs.map fun c => .str [c], none) (h ++ [.lst L]) := by
          simp only [e_iseq, e_cut, dVar, List.getElem?_cons_succ, List.getElem?_cons_zero, Res.bind_ok, e_osome, e_bin, e_c, vAdd_int, e_onone]
          rw [show ((k : Int) + 1) = ((k + 1 : Nat) : Int) by omega, cut_from ht, hd']
          simp only [Res.bind_ok, vIter]
          rw [if_pos]
          have : cs.length ≤ t.length := by rw [← hd']; simp
          unfold lineN; omega
        obtain ⟨c6, e6⟩ := i_for (t := t) (r := r) (k4 := some (.int k)) (h := h ++ [.lst L]) (it := cs.map fun c => .str [c]) cs (k + 1) c5
        obtain ⟨l, e1, e2⟩ := ih (k + 1) (k + 1 + (cs.takeWhile alnB).length) (L ++ [.tup [.int k, .int ((k + 1 + (cs.takeWhile alnB).length : Nat) : Int)]]) (some (.int k)) c6 (by omega) (by simp; omega)
        refine ⟨l, ?_, e2⟩
        rw [if_t (h1 := h ++ [.lst L]) (by rw [el, hl]), e_seq, e_for, ei]
        simp only [Res.to_ok]
        rw [e6]
        simp only [SRes.andThen_nx, e_next]
        rw [fin, SRes.turn_nx]
        refine Eq.trans e1 ?_
        rw [hd', lx_let hl, show k + 1 + (cs.takeWhile alnB).length - (k + 1) = (cs.takeWhile alnB).length by omega]
        have : Tk.fin (c :: cs.takeWhile alnB, k) = k + 1 + (cs.takeWhile alnB).length := by
          simp only [Tk.fin, List.length_cons]; omega
        simp only [List.map_cons, fv, this, List.append_assoc, List.cons_append, List.nil_append]
      · have hl' : letB c = false := by simpa using hl
        obtain ⟨l, e1, e2⟩ := ih (k + 1) (k + 1) (L ++ [.tup [.int k, .int ((k + 1 : Nat) : Int)]]) (some (.int k)) c5 (by omega) (by simp; omega)
        refine ⟨l, ?_, e2⟩
        rw [if_f (h1 := h ++ [.lst L]) (by rw [el, hl']), fin, SRes.turn_nx]
        refine Eq.trans e1 ?_
        rw [hd', lx_one hl' h2, Nat.sub_self]
        have : Tk.fin ([c], k) = k + 1 := rfl
        simp only [List.map_cons, fv, this, List.append_assoc, List.cons_append, List.nil_append]
theorem okVs_fv : ∀ (L : List Tk), okVs (L.map fv) = true
  | [] => rfl
  | x :: L => by
    simp only [List.map_cons, okVs, okVs_fv L, Bool.and_true]
    rfl
theorem ltokens_a {t : List Nat} (ht : t.length ≤ 100000) {k : Nat} {h : Hv} : lev D (k + 1) 15 [.str t] h = .ok (.lst ((lx 0 0 t).map fv)) h := by
  refine eq_of ?_
  show ok (tidy (runDef 6 (b__law_tokens (lev D k)) [.str t] h) h) _
  refine tidy_lst ?_
  obtain ⟨l, e1, e2⟩ := l_for ht (r := h.length) (h := h) rfl (it := rangeL 0 t.length) t.length 0 0 [] none none (by omega) (by simp)
  have run : b__law_tokens (lev D k) [some (.str t), none, none, none, none, none] h = .rt (.ref h.length) (h ++ [.lst ((lx 0 0 t).map fv)]) := by
    unfold b__law_tokens
    rw [set_eq (v := .ref h.length) (h1 := h ++ [.lst []]) (by simp [mkRef]), set_eq (v := .int 0) (h1 := h ++ [.lst []]) rfl, set_eq (v := .str LET) (h1 := h ++ [.lst []]) rfl]
    show sSeq (sFor (iRange1 (dLen (dVar 0))) (gName 4) lBd) _ _ _ = _
    rw [e_seq, e_for]
    rw [show ((([some (Val.str t), none, none, none, none, none] : GH.Loc).set 1 (some (Val.ref h.length))).set 2 (some (Val.int 0))).set 3 (some (.str LET)) = [some (.str t), some (.ref h.length), some (.int ((0 : Nat) : Int)), some (.str LET), none, none] from rfl]
    have er : iRange1 (dLen (dVar 0)) [some (.str t), some (.ref h.length), some (.int ((0 : Nat) : Int)), some (.str LET), none, none] (h ++ [.lst []]) = .ok (rangeL 0 t.length, none) (h ++ [.lst []]) := by
      simp only [e_rng1, e_len, dVar, List.getElem?_cons_zero, Res.bind_ok, len_str ht]
      exact rng_ok (by omega)
    rw [er]
    simp only [Res.to_ok]
    refine (congrArg (SRes.andThen · _) e1).trans ?_
    rw [SRes.andThen_nx]
    exact ret_eq (v := .ref h.length) (by simp only [dVar, e2]; rfl)
  rw [run_rt run]
  exact ⟨_, h.length, (lx 0 0 t).map fv, rfl, rfl, Nat.le_refl _, by simp, okVs_fv _, rfl, rfl⟩
end L05
set_option Elab.async false
set_option linter.all false
set_option maxRecDepth 100000
set_option maxHeartbeats 1000000
set_option autoImplicit false
namespace L05
open GH PySem
/-! the reader's object -/
abbrev RD : List Nat := [82, 101, 97, 100, 101, 114]
abbrev nFd : List Nat := [102, 111, 117, 110, 100]
abbrev nAt : List Nat := [97, 116]
abbrev SP : List Nat := [83, 121, 110, 116, 97, 120, 80, 114, 111, 98, 108, 101, 109]
abbrev nSt : List Nat := [115, 116, 97, 114, 116]
def rb (F : List Tk) (ts : List Sy) : Ob := .ins RD [(nFd, .lst (F.map tkv)), (nAt, .int ((F.length - ts.length : Nat) : Int))]
def Suf (F : List Tk) (ts : List Sy) : Prop := (F.drop (F.length - ts.length)).map (·.1) = ts
def place (F : List Tk) : List Sy → Nat
  | [] => (match F.getLast? with
    | none => 0
    | some x => x.fin)
  | _ :: t => (match F[F.length - (t.length + 1)]? with
    | some x => x.2
    | none => 0)
def EX (F : List Tk) (ts : List Sy) : Ex := ⟨SP, [(nSt, .int (place F ts))]⟩
structure FOk (F : List Tk) : Prop where
  len : F.length ≤ 100000
  tok : ∀ x ∈ F, x.1 ≠ [] ∧ x.1.length ≤ 100000 ∧ okV (.str x.1) = true
def O (F : List Tk) (h : Hv) (v : Val) (r : Rs) : Res Val := if r.1 = true then .ok v (h ++ [rb F r.2]) else .exc (EX F r.2) (h ++ [rb F r.2])
theorem O_t {F : List Tk} {h : Hv} {v : Val} {r : List Sy} : O F h v (true, r) = .ok v (h ++ [rb F r]) := rfl
theorem O_f {F : List Tk} {h : Hv} {v : Val} {r : List Sy} : O F h v (false, r) = .exc (EX F r) (h ++ [rb F r]) := rfl
theorem suf_len {F : List Tk} {ts : List Sy} (h : Suf F ts) : ts.length ≤ F.length := by
  have := congrArg List.length h
  simp at this
  omega
theorem suf_cons {F : List Tk} {s : Sy} {t : List Sy} (h : Suf F (s :: t)) : Suf F t ∧ F.length - t.length = F.length - (t.length + 1) + 1 ∧ ∃ p, F[F.length - (t.length + 1)]? = some (s, p) := by
  have hl := suf_len h
  simp only [List.length_cons] at hl
  have e1 : F.length - t.length = F.length - (t.length + 1) + 1 := by omega
  unfold Suf at h
  simp only [List.length_cons] at h
  have h0 := congrArg (·[0]?) h
  have h1 := congrArg (List.drop 1) h
  simp only [List.getElem?_map, List.getElem?_drop, Nat.add_zero, List.getElem?_cons_zero, Option.map_eq_some_iff] at h0
  obtain ⟨⟨a, p⟩, e, rfl⟩ := h0
  refine ⟨?_, e1, p, e⟩
  unfold Suf
  rw [e1, ← List.drop_drop]
  rw [List.map_drop]
  exact h1
theorem suf_app {F : List Tk} : ∀ {c r : List Sy}, Suf F (c ++ r) → Suf F r
  | [], _, h => h
  | _ :: c, _, h => suf_app (suf_cons (show Suf F (_ :: (c ++ _)) from h)).1
theorem suf_all (F : List Tk) : Suf F (F.map (·.1)) := by
  unfold Suf
  simp
section
variable {F : List Tk} {ts : List Sy} {h : Hv} {l : GH.Loc} {i : Nat}
theorem at_rb : (h ++ [rb F ts])[h.length]? = some (rb F ts) := by simp
theorem set_rb {ts' : List Sy} : (h ++ [rb F ts]).set h.length (rb F ts') = h ++ [rb F ts'] := by simp
theorem ins_rb : insOf RD (h ++ [rb F ts]) (.ref h.length) = some (h.length, [(nFd, .lst (F.map tkv)), (nAt, .int ((F.length - ts.length : Nat) : Int))]) := by
  unfold insOf
  simp only [at_rb]
  simp only [rb, if_true]
theorem f_fd (hl : l[i]? = some (some (.ref h.length))) : dFld RD nFd (dVar i) l (h ++ [rb F ts]) = .ok (.lst (F.map tkv)) (h ++ [rb F ts]) := by
  simp only [dFld, dVar, hl, Res.bind_ok, ins_rb]
  rfl
theorem f_at (hl : l[i]? = some (some (.ref h.length))) : dFld RD nAt (dVar i) l (h ++ [rb F ts]) = .ok (.int ((F.length - ts.length : Nat) : Int)) (h ++ [rb F ts]) := by
  simp only [dFld, dVar, hl, Res.bind_ok, ins_rb]
  rfl
theorem f_aug {s : Sy} {t : List Sy} (hl : l[i]? = some (some (.ref h.length))) (hs : Suf F (s :: t)) : sFldAug RD nAt (dVar i) (dC (.int 1)) l (h ++ [rb F (s :: t)]) = .nx l (h ++ [rb F t]) := by
  simp only [sFldAug, dVar, hl, Res.to_ok, ins_rb, e_c]
  have e1 := (suf_cons hs).2.1
  have e2 : rb F t = .ins RD (fput nAt (.int ((F.length - (s :: t).length : Nat) + 1)) [(nFd, .lst (F.map tkv)), (nAt, .int ((F.length - (s :: t).length : Nat) : Int))]) := by
    simp only [rb, e1, List.length_cons]
    rfl
  rw [← set_rb (ts := s :: t) (ts' := t), e2]
  rfl
theorem mth_ {m : List Nat} {DD : DF} {r : DenG (List Val)} {vs : List Val} (hl : l[i]? = some (some (.ref h.length))) (hr : r l (h ++ [rb F ts]) = .ok vs (h ++ [rb F ts])) (hm : m ≠ nFd ∧ m ≠ nAt := by decide) :
    dMth RD m DD (dVar i) r l (h ++ [rb F ts]) = DD (.ref h.length :: vs) (h ++ [rb F ts]) := by
  simp only [dMth, dVar, hl, Res.bind_ok, ins_rb, fget, if_neg (Ne.symm hm.1), if_neg (Ne.symm hm.2), hr]
theorem ix_tk {s : Sy} {t : List Sy} (hs : Suf F (s :: t)) {H : Hv} : ∃ p, F[F.length - (t.length + 1)]? = some (s, p) ∧ vIx (.lst (F.map tkv)) (.int ((F.length - (s :: t).length : Nat) : Int)) H = .ok (tkv (s, p)) H := by
  obtain ⟨p, e⟩ := (suf_cons hs).2.2
  refine ⟨p, e, vIx_lst (nth_nat ?_)⟩
  rw [List.getElem?_map, List.length_cons, e]
  rfl
theorem ix_last {L : List Val} {v : Val} {H : Hv} : vIx (.lst (L ++ [v])) (.int (-1)) H = .ok v H := by
  simp only [vIx, seqOf, lstOf, nth]
  have e1 : ¬ (0 : Int) ≤ -1 := by omega
  rw [if_neg e1, if_pos (by simp; omega)]
  have : ((-1 : Int) + ((L ++ [v]).length : Nat)).toNat = L.length := by simp; omega
  rw [this]
  simp
theorem f_lt (hl : l[i]? = some (some (.ref h.length))) (hs : Suf F ts) : dB (dBin vLt (dFld RD nAt (dVar i)) (dLen (dFld RD nFd (dVar i)))) l (h ++ [rb F ts]) = .ok (!ts.isEmpty) (h ++ [rb F ts]) := by
  simp only [e_b, e_bin, e_len, f_at hl, f_fd hl, Res.bind_ok, vLen_lst, vLt_int, resB_bl]
  have := suf_len hs
  cases ts with
  | nil => simp
  | cons s t =>
    simp only [List.length_cons] at this
    simp
    omega
theorem need_t {k : Nat} {v : Val} {H : Hv} : lev D (k + 1) 19 [v, .bl true] H = .ok .non H := by
  show runDef 2 (b_Reader_need (lev D k)) [v, .bl true] H = _
  refine run_rt ?_
  unfold b_Reader_need
  exact (if_t (h1 := H) (by simp [dVar])).trans rfl
theorem raise_eq {de : Den} {rest : Stm} {l : GH.Loc} {H : Hv} {v : Val} (e : de l H = .ok v H) : sSeq (sRaiseF SP nSt de) rest l H = .exc ⟨SP, [(nSt, v)]⟩ l H := by
  rw [e_seq]
  simp only [sRaiseF, e, Res.to_ok]
  rfl
theorem need_f (hF : FOk F) (hs : Suf F ts) {k : Nat} : lev D (k + 1) 19 [.ref h.length, .bl false] (h ++ [rb F ts]) = .exc (EX F ts) (h ++ [rb F ts]) := by
  show runDef 2 (b_Reader_need (lev D k)) [.ref h.length, .bl false] (h ++ [rb F ts]) = _
  have hl : ([some (Val.ref h.length), some (Val.bl false)] : GH.Loc)[0]? = some (some (.ref h.length)) := rfl
  refine run_exc (l' := [some (.ref h.length), some (.bl false)]) ?_
  unfold b_Reader_need
  refine (if_f (h1 := h ++ [rb F ts]) (by simp [dVar])).trans ?_
  have c1 := f_lt hl hs
  cases ts with
  | cons s t =>
    obtain ⟨p, e1, e2⟩ := ix_tk hs (H := h ++ [rb F (s :: t)])
    refine (if_t (h1 := h ++ [rb F (s :: t)]) c1).trans ?_
    refine (congrArg (SRes.andThen · _) (raise_eq (v := .int p) ?_)).trans ?_
    · simp only [e_bin, f_fd hl, f_at hl, Res.bind_ok, e2, e_c]
      rfl
    · simp only [EX, place, e1]
      rfl
  | nil =>
    refine (if_f (h1 := h ++ [rb F []]) c1).trans ?_
    have c2 : dNot (dTru (dFld RD nFd (dVar 0))) [some (Val.ref h.length), some (Val.bl false)] (h ++ [rb F []]) = .ok F.isEmpty (h ++ [rb F []]) := by
      simp only [e_not, e_tru, f_fd hl, Res.bind_ok, vTru, seqOf, lstOf]
      cases F <;> rfl
    rcases List.eq_nil_or_concat F with rfl | ⟨G, x, rfl⟩
    · refine (if_t (h1 := h ++ [rb [] []]) c2).trans ?_
      refine (congrArg (SRes.andThen · _) (raise_eq (v := .int 0) rfl)).trans rfl
    · refine (if_f (h1 := h ++ [rb (G.concat x) []]) (c2.trans (by simp))).trans ?_
      have eF : ((G.concat x).map tkv) = G.map tkv ++ [tkv x] := by simp
      have hx : x ∈ G.concat x := by simp
      refine (raise_eq (v := .int (x.2 + (x.1.length : Nat))) ?_).trans ?_
      · simp only [e_bin, e_neg, e_len, f_fd hl, Res.bind_ok, eF, ix_last, e_c, tkv, t2, t1, len_str (hF.tok x hx).2.1, vAdd_int]
      · simp only [EX, place, List.concat_eq_append, List.getLast?_concat, Tk.fin]
        rfl
theorem fixed_a (hF : FOk F) (hs : Suf F ts) {k : Nat} : lev D (k + 1) 20 [.ref h.length] (h ++ [rb F ts]) = .ok (.str (fixed ts)) (h ++ [rb F ts]) := by
  show runDef 1 (b_Reader_fixed (lev D k)) [.ref h.length] (h ++ [rb F ts]) = _
  have hl : ([some (Val.ref h.length)] : GH.Loc)[0]? = some (some (.ref h.length)) := rfl
  refine run_rt ?_
  unfold b_Reader_fixed
  have c1 := f_lt hl hs
  cases ts with
  | nil =>
    refine (if_f (h1 := h ++ [rb F []]) ?_).trans rfl
    rw [e_and]
    exact (congrArg (Res.bind · _) c1).trans rfl
  | cons s t =>
    obtain ⟨p, e1, e2⟩ := ix_tk hs (H := h ++ [rb F (s :: t)])
    have c2 : dB (dBin vIn (dBin vIx (dBin vIx (dFld RD nFd (dVar 0)) (dFld RD nAt (dVar 0))) (dC (.int 0))) (dTup (dCons (dC (.str kWord)) (dCons (dC (.str kSign)) dNil)))) [some (Val.ref h.length)] (h ++ [rb F (s :: t)]) = .ok (decide (kind s = kWord ∨ kind s = kSign)) (h ++ [rb F (s :: t)]) := by
      simp only [e_b, e_bin, f_fd hl, f_at hl, Res.bind_ok, e2, e_c, e_tup, e_cons, e_nil, mk2, tkv, t0]
      rw [show vIn (.str (kind s)) (.tup [.str kWord, .str kSign]) (h ++ [rb F (s :: t)]) = .ok (.bl (decide (kind s ∈ [kWord, kSign]))) (h ++ [rb F (s :: t)]) from vIn_tupTxt (L := [kWord, kSign]) (kind_ok s) (by decide +kernel) _]
      simp
    have c3 : dAnd (dB (dBin vLt (dFld RD nAt (dVar 0)) (dLen (dFld RD nFd (dVar 0))))) (dB (dBin vIn (dBin vIx (dBin vIx (dFld RD nFd (dVar 0)) (dFld RD nAt (dVar 0))) (dC (.int 0))) (dTup (dCons (dC (.str kWord)) (dCons (dC (.str kSign)) dNil))))) [some (Val.ref h.length)] (h ++ [rb F (s :: t)]) = .ok (decide (kind s = kWord ∨ kind s = kSign)) (h ++ [rb F (s :: t)]) := by
      rw [e_and, c1]
      exact c2
    by_cases hk : kind s = kWord ∨ kind s = kSign
    · refine (if_t (h1 := h ++ [rb F (s :: t)]) (c3.trans (by simp only [hk, decide_true]))).trans ?_
      refine (congrArg (SRes.andThen · _) (ret_eq (v := .str s) (h1 := h ++ [rb F (s :: t)]) ?_)).trans ?_
      · simp only [e_bin, f_fd hl, f_at hl, Res.bind_ok, e2, e_c, tkv, t1]
      · simp only [fixed, hk, if_true]
        rfl
    · refine (if_f (h1 := h ++ [rb F (s :: t)]) (c3.trans (by simp only [hk, decide_false]))).trans ?_
      simp only [fixed, hk, if_false]
      rfl
theorem fx_eq (hF : FOk F) (hs : Suf F ts) (hl : l[i]? = some (some (.ref h.length))) {k : Nat} : dMth RD [102, 105, 120, 101, 100] (lev D (k + 1) 20) (dVar i) dNil l (h ++ [rb F ts]) = .ok (.str (fixed ts)) (h ++ [rb F ts]) :=
  (mth_ hl (e_nil ..)).trans (fixed_a hF hs)
theorem take_a (hF : FOk F) (hs : Suf F ts) {k : Nat} (w : Sy) (hw : w ≠ []) : lev D (k + 2) 21 [.ref h.length, .str w] (h ++ [rb F ts]) = O F h .non (tk w ts) := by
  show runDef 2 (b_Reader_take (lev D (k + 1))) [.ref h.length, .str w] (h ++ [rb F ts]) = _
  have hl : ([some (Val.ref h.length), some (Val.str w)] : GH.Loc)[0]? = some (some (.ref h.length)) := rfl
  have ea : dCons (dBin vEq (dMth RD [102, 105, 120, 101, 100] (lev D (k + 1) 20) (dVar 0) dNil) (dVar 1)) dNil [some (Val.ref h.length), some (Val.str w)] (h ++ [rb F ts]) = .ok [.bl (decide (fixed ts = w))] (h ++ [rb F ts]) := by
    simp only [e_cons, e_bin, fx_eq hF hs hl, dVar, List.getElem?_cons_succ, List.getElem?_cons_zero, Res.bind_ok, vEq_str, e_nil]
  have en := mth_ (m := [110, 101, 101, 100]) (DD := lev D (k + 1) 19) hl ea
  unfold O tk
  by_cases e : fixed ts = w
  · obtain ⟨t, rfl⟩ := fixed_cons e hw
    rw [if_pos e]
    simp only [if_true]
    refine run_nx (l' := [some (Val.ref h.length), some (Val.str w)]) ?_
    unfold b_Reader_take
    refine (expr_eq (v := .non) (h1 := h ++ [rb F (w :: t)]) ?_).trans ?_
    · refine en.trans ?_
      rw [e]
      simp only [decide_true]
      exact need_t
    · rw [e_seq]
      exact (congrArg (SRes.andThen · _) (f_aug hl hs)).trans rfl
  · rw [if_neg e]
    simp only [Bool.false_eq_true, if_false]
    refine run_exc (l' := [some (Val.ref h.length), some (Val.str w)]) ?_
    unfold b_Reader_take
    refine expr_ex (en.trans ?_)
    simp only [e, decide_false]
    exact need_f hF hs
theorem lt_one (a b : Nat) : decide (([a] : List Nat) < [b]) = decide (a < b) := by
  have : (([a] : List Nat) < [b]) ↔ a < b := by
    rw [List.cons_lt_cons_iff]
    simp
  simp only [this]
theorem isset_a {k : Nat} {s : Sy} (n : s ≠ []) (hl : s.length ≤ 100000) {H : Hv} : lev D (k + 1) 0 [.str s] H = .ok (.bl (isSet s)) H := by
  cases s with
  | nil => exact absurd rfl n
  | cons c s =>
    show runDef 1 (b_is_set_name (lev D k)) [.str (c :: s)] H = _
    refine run_rt ?_
    unfold b_is_set_name
    refine ret_eq ?_
    have e0 : vIx (.str (c :: s)) (.int 0) H = .ok (.str [c]) H := ix_str (p := 0) hl rfl
    have a1 : vLeS (.str [65]) (.str [c]) H = .ok (.bl (!decide (c < 65))) H := by
      simp only [vCmpS, lt_one]
    have a2 : vLeS (.str [c]) (.str [90]) H = .ok (.bl (!decide (90 < c))) H := by
      simp only [vCmpS, lt_one]
    have h1 : (!decide (c < 65)) = decide (65 ≤ c) := by
      by_cases h : c < 65
      · rw [decide_eq_true h, decide_eq_false (by omega)]; rfl
      · rw [decide_eq_false h, decide_eq_true (by omega)]; rfl
    have h2 : (!decide (90 < c)) = decide (c ≤ 90) := by
      by_cases h : 90 < c
      · rw [decide_eq_true h, decide_eq_false (by omega)]; rfl
      · rw [decide_eq_false h, decide_eq_true (by omega)]; rfl
    rw [h1] at a1
    rw [h2] at a2
    rw [e_chain]
    simp only [e_c, e_bin, dVar, List.map_cons, List.cons_append, List.getElem?_cons_zero, Res.bind_ok, e0, a1]
    show _ = Res.ok (Val.bl (decide (65 ≤ c) && decide (c ≤ 90))) H
    cases decide (65 ≤ c) with
    | false => rfl
    | true => exact a2
theorem name_a (hF : FOk F) (hs : Suf F ts) {k : Nat} (q : Sy) : lev D (k + 2) 22 [.ref h.length, .str q] (h ++ [rb F ts]) = O F h (.str (ts.headD [])) (nmP q ts) := by
  show runDef 3 (b_Reader_name (lev D (k + 1))) [.ref h.length, .str q] (h ++ [rb F ts]) = _
  have hl : ∀ x, ([some (Val.ref h.length), some (Val.str q), x] : GH.Loc)[0]? = some (some (.ref h.length)) := fun x => rfl
  have c1 : dBin vLt (dFld RD nAt (dVar 0)) (dLen (dFld RD nFd (dVar 0))) [some (Val.ref h.length), some (Val.str q), none] (h ++ [rb F ts]) = .ok (.bl (!ts.isEmpty)) (h ++ [rb F ts]) := by
    simp only [e_b, e_bin, e_len, f_at (hl _), f_fd (hl _), Res.bind_ok, vLen_lst, vLt_int, resB_bl]
    have := suf_len hs
    cases ts with
    | nil => simp
    | cons s t =>
      simp only [List.length_cons] at this
      simp
      omega
  cases ts with
  | nil =>
    refine run_exc (l' := [some (Val.ref h.length), some (Val.str q), none]) ?_
    unfold b_Reader_name
    refine expr_ex ((mth_ (vs := [.bl false]) (hl _) ?_).trans (need_f hF hs))
    simp only [e_cons, e_andv, c1, Res.bind_ok, e_nil]
    rfl
  | cons s t =>
    obtain ⟨p, e1, e2⟩ := ix_tk hs (H := h ++ [rb F (s :: t)])
    have hm : (s, p) ∈ F := List.mem_of_getElem? e1
    obtain ⟨k1, k2, k3⟩ := hF.tok _ hm
    simp only at k1 k2 k3
    have ea : dCons (dAndV (dBin vLt (dFld RD nAt (dVar 0)) (dLen (dFld RD nFd (dVar 0)))) (dBin vEq (dBin vIx (dBin vIx (dFld RD nFd (dVar 0)) (dFld RD nAt (dVar 0))) (dC (.int 0))) (dC (.str kName)))) dNil [some (Val.ref h.length), some (Val.str q), none] (h ++ [rb F (s :: t)]) = .ok [.bl (decide (kind s = kName))] (h ++ [rb F (s :: t)]) := by
      simp only [e_cons, e_andv, c1, Res.bind_ok, e_nil]
      simp only [e_bin, f_fd (hl _), f_at (hl _), Res.bind_ok, e2, e_c, tkv, t0, vEq_str]
      rfl
    have en := mth_ (m := [110, 101, 101, 100]) (DD := lev D (k + 1) 19) (hl none) ea
    rw [List.headD_cons]
    by_cases e : kind s = kName
    · have st : b_Reader_name (lev D (k + 1)) [some (Val.ref h.length), some (Val.str q), none] (h ++ [rb F (s :: t)]) = (sSeq (sIf (dB (dBin vEq (dVar 1) (dC (.str [108, 97, 98, 101, 108])))) (sSeq (sExpr (dMth [82, 101, 97, 100, 101, 114] [110, 101, 101, 100] (lev D (k + 1) 19) (dVar 0) (dCons (dAndV (dBin vEq (dLen (dVar 2)) (dC (.int 1))) (dNotV (dCall (lev D (k + 1) 0) (dCons (dVar 2) dNil)))) dNil)))
    sNext) (sSeq (sIf (dB (dBin vNe (dVar 1) (dC (.str [97, 110, 121])))) (sSeq (sExpr (dMth [82, 101, 97, 100, 101, 114] [110, 101, 101, 100] (lev D (k + 1) 19) (dVar 0) (dCons (dBin vEq (dCall (lev D (k + 1) 0) (dCons (dVar 2) dNil)) (dBin vEq (dVar 1) (dC (.str [115, 101, 116])))) dNil)))
    sNext) sNext)
    sNext))
    (sSeq (sFldAug [82, 101, 97, 100, 101, 114] [97, 116] (dVar 0) (dC (.int 1)))
    (sSeq (sRet (dVar 2))
    sNext))) [some (Val.ref h.length), some (Val.str q), some (.str s)] (h ++ [rb F (s :: t)]) := by
        unfold b_Reader_name
        refine (expr_eq (v := .non) (h1 := h ++ [rb F (s :: t)]) ?_).trans ?_
        · refine en.trans ?_
          rw [e]
          simp only [decide_true]
          exact need_t
        · refine (set_eq (v := .str s) (h1 := h ++ [rb F (s :: t)]) ?_).trans rfl
          simp only [e_bin, f_fd (hl _), f_at (hl _), Res.bind_ok, e2, e_c, tkv, t1]
      have go : (sSeq (sFldAug [82, 101, 97, 100, 101, 114] [97, 116] (dVar 0) (dC (.int 1)))
    (sSeq (sRet (dVar 2))
    sNext)) [some (Val.ref h.length), some (Val.str q), some (.str s)] (h ++ [rb F (s :: t)]) = .rt (.str s) (h ++ [rb F t]) := by
        rw [e_seq]
        exact (congrArg (SRes.andThen · _) (f_aug (hl _) hs)).trans rfl
      have key : ∀ (b : Bool) (d : Den) (rest : Stm), d [some (Val.ref h.length), some (Val.str q), some (.str s)] (h ++ [rb F (s :: t)]) = .ok (.bl b) (h ++ [rb F (s :: t)]) →
          (sSeq (sExpr (dMth [82, 101, 97, 100, 101, 114] [110, 101, 101, 100] (lev D (k + 1) 19) (dVar 0) (dCons d dNil))) rest) [some (Val.ref h.length), some (Val.str q), some (.str s)] (h ++ [rb F (s :: t)])
          = if b = true then rest [some (Val.ref h.length), some (Val.str q), some (.str s)] (h ++ [rb F (s :: t)]) else .exc (EX F (s :: t)) [some (Val.ref h.length), some (Val.str q), some (.str s)] (h ++ [rb F (s :: t)]) := fun b d rest hd => by
        have ed : dCons d dNil [some (Val.ref h.length), some (Val.str q), some (.str s)] (h ++ [rb F (s :: t)]) = .ok [.bl b] (h ++ [rb F (s :: t)]) := by
          simp only [e_cons, hd, Res.bind_ok, e_nil]
        have en := mth_ (m := [110, 101, 101, 100]) (DD := lev D (k + 1) 19) (hl (some (.str s))) ed
        cases b with
        | true => exact expr_eq (v := .non) (en.trans need_t)
        | false => exact expr_ex (en.trans (need_f hF hs))
      have eset : ∀ x, dCall (lev D (k + 1) 0) (dCons (dVar 2) dNil) [some (Val.ref h.length), x, some (.str s)] (h ++ [rb F (s :: t)]) = .ok (.bl (isSet s)) (h ++ [rb F (s :: t)]) := fun x => by
        simp only [e_call, e_cons, dVar, List.getElem?_cons_succ, List.getElem?_cons_zero, Res.bind_ok, e_nil, isset_a k1 k2]
      have res : b_Reader_name (lev D (k + 1)) [some (Val.ref h.length), some (Val.str q), none] (h ++ [rb F (s :: t)]) = if sortOk q s = true then .rt (.str s) (h ++ [rb F t]) else .exc (EX F (s :: t)) [some (Val.ref h.length), some (Val.str q), some (.str s)] (h ++ [rb F (s :: t)]) := by
        rw [st]
        have q1 : dB (dBin vEq (dVar 1) (dC (.str [108, 97, 98, 101, 108]))) [some (Val.ref h.length), some (Val.str q), some (.str s)] (h ++ [rb F (s :: t)]) = .ok (decide (q = wLabel)) (h ++ [rb F (s :: t)]) := by
          simp only [e_b, e_bin, dVar, List.getElem?_cons_succ, List.getElem?_cons_zero, Res.bind_ok, e_c, vEq_str, resB_bl]
        have q2 : dB (dBin vNe (dVar 1) (dC (.str [97, 110, 121]))) [some (Val.ref h.length), some (Val.str q), some (.str s)] (h ++ [rb F (s :: t)]) = .ok (!decide (q = sAny)) (h ++ [rb F (s :: t)]) := by
          simp only [e_b, e_bin, dVar, List.getElem?_cons_succ, List.getElem?_cons_zero, Res.bind_ok, e_c, vNe_str, resB_bl]
        unfold sortOk
        by_cases hq : q = wLabel
        · rw [if_pos hq, if_t (h1 := h ++ [rb F (s :: t)]) (q1.trans (by simp only [hq, decide_true]))]
          rw [key (decide (s.length = 1) && !isSet s) _ _ ?_]
          · cases (decide (s.length = 1) && !isSet s) with
            | true => simp only [if_true]; exact (congrArg (SRes.andThen · _) (e_next ..)).trans go
            | false => rfl
          · simp only [e_andv, e_bin, e_len, dVar, List.getElem?_cons_succ, List.getElem?_cons_zero, Res.bind_ok, len_str k2, e_c, vEq_int]
            have : decide ((s.length : Int) = 1) = decide (s.length = 1) := decide_eq_decide.mpr (by omega)
            rw [this]
            cases decide (s.length = 1) with
            | false => rfl
            | true => simp only [e_notv, eset, Res.bind_ok]; cases isSet s <;> rfl
        · rw [if_neg hq, if_e (h1 := h ++ [rb F (s :: t)]) (q1.trans (by simp only [hq, decide_false]))]
          by_cases hq2 : q = sAny
          · rw [if_pos hq2, if_f (h1 := h ++ [rb F (s :: t)]) (q2.trans (by simp only [hq2, decide_true, Bool.not_true]))]
            exact (congrArg (SRes.andThen · _) (e_next ..)).trans go
          · rw [if_neg hq2, if_t (h1 := h ++ [rb F (s :: t)]) (q2.trans (by simp only [hq2, decide_false, Bool.not_false]))]
            rw [key (isSet s == decide (q = sSet)) _ _ ?_]
            · cases (isSet s == decide (q = sSet)) with
              | true => simp only [if_true]; exact (congrArg (SRes.andThen · _) (congrArg (SRes.andThen · _) (e_next ..))).trans go
              | false => rfl
            · simp only [e_bin, eset, dVar, List.getElem?_cons_succ, List.getElem?_cons_zero, Res.bind_ok, e_c, vEq_str, vEq_bl]
              cases isSet s <;> cases decide (q = sSet) <;> rfl
      by_cases e3 : sortOk q s = true
      · rw [show nmP q (s :: t) = (true, t) from if_pos ⟨e, e3⟩, O_t]
        rw [if_pos e3] at res
        exact run_rt res
      · rw [show nmP q (s :: t) = (false, s :: t) from if_neg (fun z => e3 z.2), O_f]
        rw [if_neg e3] at res
        exact run_exc res
    · rw [show nmP q (s :: t) = (false, s :: t) from if_neg (fun z => e z.1), O_f]
      refine run_exc (l' := [some (Val.ref h.length), some (Val.str q), none]) ?_
      unfold b_Reader_name
      refine expr_ex (en.trans ?_)
      simp only [e, decide_false]
      exact need_f hF hs
end
end L05
set_option Elab.async false
set_option linter.all false
set_option maxRecDepth 100000
set_option maxHeartbeats 1000000
set_option autoImplicit false
namespace L05
open GH PySem
/-! results: read up to p.2, or a failure there -/
def RP (G : Val → Prop) (F : List Tk) (h : Hv) (p : Rs) (r : Res Val) : Prop := (p.1 = true → ∃ v, G v ∧ r = .ok v (h ++ [rb F p.2])) ∧ (p.1 = false → r = .exc (EX F p.2) (h ++ [rb F p.2]))
def SR (G : Val → Prop) (F : List Tk) (h : Hv) (p : Rs) (r : SRes) : Prop := (p.1 = true → ∃ v, G v ∧ r = .rt v (h ++ [rb F p.2])) ∧ (p.1 = false → ∃ l, r = .exc (EX F p.2) l (h ++ [rb F p.2]))
def LP (F : List Tk) (h : Hv) (p : Rs) (r : SRes) : Prop := (p.1 = true → ∃ v, r = .nx [some (.ref h.length), some v] (h ++ [rb F p.2])) ∧ (p.1 = false → ∃ l, r = .exc (EX F p.2) l (h ++ [rb F p.2]))
section
variable {G Gd : Val → Prop} {F : List Tk} {h : Hv} {p : Rs} {ts : List Sy} {f g : List Sy → Rs} {d : Den} {rest : Stm} {l : GH.Loc} {i : Nat}
theorem rp_O {v : Val} {r : Res Val} (e : r = O F h v p) (hv : G v) : RP G F h p r := by
  obtain ⟨b, q⟩ := p
  subst e
  cases b with
  | true => exact ⟨fun _ => ⟨v, hv, rfl⟩, fun z => by cases z⟩
  | false => exact ⟨fun z => (by cases z), fun _ => rfl⟩
theorem rp_run {n : Nat} {b : Stm} {args : List Val} {H : Hv} (z : SR G F h p (b (args.map some ++ List.replicate (n - args.length) none) H)) : RP G F h p (runDef n b args H) := by
  refine ⟨fun e => ?_, fun e => ?_⟩
  · obtain ⟨v, hv, e2⟩ := z.1 e
    exact ⟨v, hv, run_rt e2⟩
  · obtain ⟨l, e2⟩ := z.2 e
    exact run_exc e2
theorem sr_expr (hf : LocF f) (hs : Suf F ts) (hd : RP Gd F h (f ts) (d l (h ++ [rb F ts]))) (k : ∀ r, f ts = (true, r) → Suf F r → SR G F h (g r) (rest l (h ++ [rb F r]))) : SR G F h (thn f g ts) (sSeq (sExpr d) rest l (h ++ [rb F ts])) := by
  rcases e : f ts with ⟨b, r⟩
  obtain ⟨c, hc, _⟩ := hf _ _ _ e
  rw [e] at hd
  unfold thn
  rw [e]
  cases b with
  | true =>
    obtain ⟨v, hv, e2⟩ := hd.1 rfl
    simp only [if_true]
    rw [expr_eq e2]
    exact k r e (suf_app (hc ▸ hs))
  | false =>
    simp only [Bool.false_eq_true, if_false]
    exact ⟨fun z => (by cases z), fun _ => ⟨l, expr_ex (hd.2 rfl)⟩⟩
theorem sr_set (hf : LocF f) (hs : Suf F ts) (hd : RP Gd F h (f ts) (d l (h ++ [rb F ts]))) (k : ∀ r v, f ts = (true, r) → Suf F r → Gd v → SR G F h (g r) (rest (l.set i (some v)) (h ++ [rb F r]))) : SR G F h (thn f g ts) (sSeq (sAsg d (gName i)) rest l (h ++ [rb F ts])) := by
  rcases e : f ts with ⟨b, r⟩
  obtain ⟨c, hc, _⟩ := hf _ _ _ e
  rw [e] at hd
  unfold thn
  rw [e]
  cases b with
  | true =>
    obtain ⟨v, hv, e2⟩ := hd.1 rfl
    simp only [if_true]
    rw [set_eq e2]
    exact k r v e (suf_app (hc ▸ hs)) hv
  | false =>
    simp only [Bool.false_eq_true, if_false]
    exact ⟨fun z => (by cases z), fun _ => ⟨l, asg_ex (hd.2 rfl)⟩⟩
theorem sr_ret (hd : RP G F h p (d l (h ++ [rb F ts]))) : SR G F h p (sSeq (sRet d) rest l (h ++ [rb F ts])) := by
  refine ⟨fun e => ?_, fun e => ?_⟩
  · obtain ⟨v, hv, e2⟩ := hd.1 e
    exact ⟨v, hv, ret_eq e2⟩
  · exact ⟨l, ret_ex (hd.2 e)⟩
/-- a value made of what a call gives -/
theorem rp_bind {r : Res Val} {k : Val → Hv → Res Val} (z : RP Gd F h p r) (kk : ∀ v H, Gd v → ∃ u, G u ∧ k v H = .ok u H) : RP G F h p (r.bind k) := by
  refine ⟨fun e => ?_, fun e => ?_⟩
  · obtain ⟨v, hv, rfl⟩ := z.1 e
    obtain ⟨u, hu, e2⟩ := kk v (h ++ [rb F p.2]) hv
    exact ⟨u, hu, e2⟩
  · rw [z.2 e]; rfl
theorem rp_imp {r : Res Val} (z : RP Gd F h p r) (kk : ∀ v, Gd v → G v) : RP G F h p r := ⟨fun e => by obtain ⟨v, hv, e2⟩ := z.1 e; exact ⟨v, kk v hv, e2⟩, z.2⟩
end
abbrev TT : Val → Prop := fun _ => True
abbrev isT2 : Val → Prop := fun v => ∃ a b, v = .tup [a, b]
abbrev isS : Val → Prop := fun v => ∃ a, v = .str a
section
variable {F : List Tk} {ts : List Sy} {h : Hv} {l : GH.Loc} {i : Nat}
theorem rp_take (hF : FOk F) (hs : Suf F ts) (hl : l[i]? = some (some (.ref h.length))) (w : Sy) (hw : w ≠ []) {k : Nat} (hk : 2 ≤ k) : RP TT F h (tk w ts) (dMth RD [116, 97, 107, 101] (lev D k 21) (dVar i) (dCons (dC (.str w)) dNil) l (h ++ [rb F ts])) := by
  obtain ⟨m, rfl⟩ : ∃ m, k = m + 2 := ⟨k - 2, by omega⟩
  exact rp_O ((mth_ (vs := [.str w]) hl rfl).trans (take_a hF hs w hw)) trivial
theorem rp_name (hF : FOk F) (hs : Suf F ts) (hl : l[i]? = some (some (.ref h.length))) {de : Den} (q : Sy) (he : de l (h ++ [rb F ts]) = .ok (.str q) (h ++ [rb F ts])) {k : Nat} (hk : 2 ≤ k) :
    RP (fun v => v = .str (ts.headD [])) F h (nmP q ts) (dMth RD [110, 97, 109, 101] (lev D k 22) (dVar i) (dCons de dNil) l (h ++ [rb F ts])) := by
  obtain ⟨m, rfl⟩ : ∃ m, k = m + 2 := ⟨k - 2, by omega⟩
  exact rp_O ((mth_ (vs := [.str q]) hl (by simp only [e_cons, he, Res.bind_ok, e_nil])).trans (name_a hF hs q)) rfl
theorem pair_a (hF : FOk F) (hs : Suf F ts) (a b : Sy) {k : Nat} (hk : 3 ≤ k) : RP isT2 F h (prr a b ts) (lev D k 26 [.ref h.length, .str a, .str b] (h ++ [rb F ts])) := by
  obtain ⟨m, rfl⟩ : ∃ m, k = m + 1 := ⟨k - 1, by omega⟩
  show RP isT2 F h (prr a b ts) (runDef 5 (b_Reader_pair (lev D m)) [.ref h.length, .str a, .str b] (h ++ [rb F ts]))
  refine rp_run ?_
  unfold b_Reader_pair prr
  refine sr_expr (loc_tk _ (by decide)) hs (rp_take hF hs rfl [40] (by decide) (by omega)) fun r1 _ s1 => ?_
  refine sr_set (loc_nm _) s1 (rp_name hF s1 rfl a rfl (by omega)) fun r2 v2 _ s2 g2 => ?_
  refine sr_expr (loc_tk _ (by decide)) s2 (rp_take hF s2 rfl [44] (by decide) (by omega)) fun r3 _ s3 => ?_
  refine sr_set (loc_nm _) s3 (rp_name hF s3 rfl b rfl (by omega)) fun r4 v4 _ s4 g4 => ?_
  refine Eq.subst (motive := fun p => SR isT2 F h p _) (show thn (tk [41]) nop r4 = tk [41] r4 from ?_) (sr_expr (g := nop) (loc_tk _ (by decide)) s4 (rp_take hF s4 rfl [41] (by decide) (by omega)) fun r5 _ s5 => ?_)
  · unfold thn
    rcases tk [41] r4 with ⟨b, r⟩
    cases b <;> rfl
  · subst g2 g4
    refine ⟨fun _ => ⟨.tup [.str (r1.headD []), .str (r3.headD [])], ⟨_, _, rfl⟩, ret_eq ?_⟩, fun z => by cases z⟩
    exact mk2 _ _ _
theorem single_a (hF : FOk F) (hs : Suf F ts) {k : Nat} (hk : 3 ≤ k) : RP isS F h (sgl ts) (lev D k 27 [.ref h.length] (h ++ [rb F ts])) := by
  obtain ⟨m, rfl⟩ : ∃ m, k = m + 1 := ⟨k - 1, by omega⟩
  show RP isS F h (sgl ts) (runDef 2 (b_Reader_single (lev D m)) [.ref h.length] (h ++ [rb F ts]))
  refine rp_run ?_
  unfold b_Reader_single sgl
  refine sr_expr (loc_tk _ (by decide)) hs (rp_take hF hs rfl [40] (by decide) (by omega)) fun r1 _ s1 => ?_
  refine sr_set (loc_nm _) s1 (rp_name hF s1 rfl sElem rfl (by omega)) fun r2 v2 _ s2 g2 => ?_
  refine Eq.subst (motive := fun p => SR isS F h p _) (show thn (tk [41]) nop r2 = tk [41] r2 from ?_) (sr_expr (g := nop) (loc_tk _ (by decide)) s2 (rp_take hF s2 rfl [41] (by decide) (by omega)) fun r5 _ s5 => ?_)
  · unfold thn
    rcases tk [41] r2 with ⟨b, r⟩
    cases b <;> rfl
  · subst g2
    exact ⟨fun _ => ⟨.str (r1.headD []), ⟨_, rfl⟩, ret_eq rfl⟩, fun z => by cases z⟩
end
def wt1 (s : Sy) : Nat := if s = [40] then 4 else if s = wNot ∨ s = wSome ∨ s = wAll then 1 else 0
def wt : List Sy → Nat
  | [] => 0
  | s :: t => wt1 s + wt t
theorem wt_app : ∀ (a b : List Sy), wt (a ++ b) = wt a + wt b
  | [], b => by simp [wt]
  | s :: a, b => by simp only [List.cons_append, wt, wt_app a b]; omega
/-! the two loops -/
def mn : Bool → List Nat
  | true => [98, 111, 116, 104]
  | false => [100, 101, 110, 105, 101, 100]
def mi : Bool → Nat
  | true => 24
  | false => 25
noncomputable def qc (p : Bool) (Γ : Gam) : DenG Bool := dB (dBin vEq (dMth RD [102, 105, 120, 101, 100] (Γ 20) (dVar 0) dNil) (dC (.str (wd p))))
noncomputable def qbd (p : Bool) (Γ : Gam) : Stm := (sSeq (sFldAug RD nAt (dVar 0) (dC (.int 1)))
    (sSeq (sAsg (dTup (dCons (dC (.str (wd p))) (dCons (dVar 1) (dCons (dMth RD (mn p) (Γ (mi p)) (dVar 0) dNil) dNil)))) (gName 1))
    sNext))
noncomputable def qall (p : Bool) (Γ : Gam) : Stm := (sSeq (sAsg (dMth RD (mn p) (Γ (mi p)) (dVar 0) dNil) (gName 1))
    (sSeq (sWhile (qc p Γ) (qbd p Γ))
    (sSeq (sRet (dVar 1))
    sNext)))
def lvQ : Bool → Nat
  | true => 7
  | false => 6
def ixQ : Bool → Nat
  | true => 23
  | false => 24
theorem lev_q (p : Bool) (k : Nat) (args : List Val) (H : Hv) : lev D (k + 1) (ixQ p) args H = runDef 2 (qall p (lev D k)) args H := by
  cases p <;> rfl
def PM (F : List Tk) (h : Hv) : NT → List Sy → Bool → List Sy → Prop
  | .Q p, ts, b, r => ∀ k, wt ts + lvQ p ≤ k → RP TT F h (b, r) (lev D k (ixQ p) [.ref h.length] (h ++ [rb F ts]))
  | .D, ts, b, r => ∀ k, wt ts + 5 ≤ k → RP TT F h (b, r) (lev D k 25 [.ref h.length] (h ++ [rb F ts]))
  | .S, ts, b, r => ∀ k, wt ts + 4 ≤ k → RP TT F h (b, r) (lev D k 28 [.ref h.length] (h ++ [rb F ts]))
  | .L p, ts, b, r => ∀ k, wt ts + lvQ p ≤ k + 1 → ∀ v0, LP F h (b, r) (sWhile (qc p (lev D k)) (qbd p (lev D k)) [some (.ref h.length), some v0] (h ++ [rb F ts]))
theorem pm_nx {F : List Tk} {h : Hv} {p : Bool} {ts : List Sy} {b : Bool} {r : List Sy} (z : PM F h (nx p) ts b r) {k : Nat} (hk : wt ts + lvQ p ≤ k + 1) : RP TT F h (b, r) (lev D k (mi p) [.ref h.length] (h ++ [rb F ts])) := by
  cases p with
  | true => exact z k (by simp only [lvQ] at hk ⊢; omega)
  | false => exact z k (by simp only [lvQ] at hk; omega)
theorem mn_ok (p : Bool) : mn p ≠ nFd ∧ mn p ≠ nAt := by cases p <;> decide
theorem lvQ_ge (p : Bool) : 6 ≤ lvQ p := by cases p <;> decide
theorem wt_tail (ts : List Sy) : wt ts.tail ≤ wt ts := by
  cases ts with
  | nil => exact Nat.le_refl _
  | cons s t => simp only [List.tail_cons, wt]; omega
section
variable {F : List Tk} {h : Hv}
theorem qc_a (hF : FOk F) {ts : List Sy} (hs : Suf F ts) (p : Bool) {k : Nat} {v0 : Val} : qc p (lev D (k + 1)) [some (.ref h.length), some v0] (h ++ [rb F ts]) = .ok (decide (fixed ts = wd p)) (h ++ [rb F ts]) := by
  unfold qc
  simp only [e_b, e_bin, fx_eq hF hs (l := [some (.ref h.length), some v0]) (i := 0) rfl, Res.bind_ok, e_c, vEq_str, resB_bl]
theorem mk3' (a b c : Val) (H : Hv) : (Res.ok [a, b, c] H).bind mkTup = .ok (.tup [a, b, c]) H := mk3 a b c H
theorem qb_a {t : List Sy} {w : Sy} (hs : Suf F (w :: t)) (p : Bool) {k : Nat} {v0 : Val} {b : Bool} {r : List Sy} (z : RP TT F h (b, r) (lev D k (mi p) [.ref h.length] (h ++ [rb F t]))) :
    (b = true → ∃ v, qbd p (lev D k) [some (.ref h.length), some v0] (h ++ [rb F (w :: t)]) = .nx [some (.ref h.length), some v] (h ++ [rb F r])) ∧
    (b = false → ∃ l, qbd p (lev D k) [some (.ref h.length), some v0] (h ++ [rb F (w :: t)]) = .exc (EX F r) l (h ++ [rb F r])) := by
  have st : qbd p (lev D k) [some (.ref h.length), some v0] (h ++ [rb F (w :: t)]) = (sSeq (sAsg (dTup (dCons (dC (.str (wd p))) (dCons (dVar 1) (dCons (dMth RD (mn p) (lev D k (mi p)) (dVar 0) dNil) dNil)))) (gName 1)) sNext) [some (.ref h.length), some v0] (h ++ [rb F t]) := by
    unfold qbd
    rw [e_seq]
    exact congrArg (SRes.andThen · _) (f_aug rfl hs)
  have em := mth_ (F := F) (ts := t) (h := h) (l := [some (.ref h.length), some v0]) (i := 0) (DD := lev D k (mi p)) rfl (e_nil ..) (mn_ok p)
  refine ⟨fun e => ?_, fun e => ?_⟩
  · obtain ⟨v, _, e2⟩ := z.1 e
    refine ⟨.tup [.str (wd p), v0, v], st.trans ?_⟩
    refine (set_eq (v := .tup [.str (wd p), v0, v]) (h1 := h ++ [rb F r]) ?_).trans rfl
    simp only [e_tup, e_cons, e_c, Res.bind_ok, dVar, List.getElem?_cons_succ, List.getElem?_cons_zero]
    rw [em, e2]
    simp only [Res.bind_ok, e_nil]
    exact mk3 _ _ _ _
  · refine ⟨_, st.trans (asg_ex ?_)⟩
    simp only [e_tup, e_cons, e_c, Res.bind_ok, dVar, List.getElem?_cons_succ, List.getElem?_cons_zero]
    rw [em, z.2 e]
    rfl
theorem eq_w {l : GH.Loc} {i : Nat} {w u : Sy} {H : Hv} (e : l[i]? = some (some (.str w))) : dB (dBin vEq (dVar i) (dC (.str u))) l H = .ok (decide (w = u)) H := by
  simp only [e_b, e_bin, dVar, e, Res.bind_ok, e_c, vEq_str, resB_bl]
theorem fixed_ok (hF : FOk F) {ts : List Sy} (hs : Suf F ts) : okV (.str (fixed ts)) = true := by
  cases ts with
  | nil => rfl
  | cons s t =>
    obtain ⟨p, e⟩ := (suf_cons hs).2.2
    have := (hF.tok _ (List.mem_of_getElem? e)).2.2
    simp only [fixed]
    split
    · exact this
    · rfl
end
end L05
set_option Elab.async false
set_option linter.all false
set_option maxRecDepth 100000
set_option maxHeartbeats 1000000
set_option autoImplicit false
namespace L05
open GH PySem
section
variable {F : List Tk} {h : Hv}
theorem wt_cons_ge {s : Sy} {t : List Sy} : wt t ≤ wt (s :: t) := by simp only [wt]; omega
theorem wt_not {t : List Sy} {w : Sy} (e : w = wNot ∨ w = wSome ∨ w = wAll) : wt (w :: t) = wt t + 1 := by
  simp only [wt, wt1]
  rw [if_neg (by rcases e with rfl | rfl | rfl <;> decide), if_pos e]
  omega
theorem wt_par {t : List Sy} : wt ([40] :: t) = wt t + 4 := by
  simp only [wt, wt1, if_true]
  omega
theorem wt_sub {c r : List Sy} : wt r ≤ wt (c ++ r) := by rw [wt_app]; omega
theorem den_q (hF : FOk F) {ts : List Sy} (hs : Suf F ts) (hw : fixed ts = wSome ∨ fixed ts = wAll) {k : Nat} (hk : wt ts + 4 ≤ k) {b : Bool} {r : List Sy}
    (z : (hdr ts.tail = (false, r) ∧ b = false) ∨ ∃ r1, hdr ts.tail = (true, r1) ∧ ∀ k, wt r1 + 5 ≤ k → RP TT F h (b, r) (lev D k 25 [.ref h.length] (h ++ [rb F r1]))) :
    SR TT F h (b, r) ((sSeq (sFldAug RD nAt (dVar 0) (dC (.int 1)))
    (sSeq (sAsg (dMth RD [110, 97, 109, 101] (lev D k 22) (dVar 0) (dCons (dC (.str sAny)) dNil)) (gName 2))
    (sSeq (sExpr (dMth RD [116, 97, 107, 101] (lev D k 21) (dVar 0) (dCons (dC (.str [58])) dNil)))
    (sSeq (sIf (dTru (dCall (lev D k 0) (dCons (dVar 2) dNil))) (sSeq (sAsg (dBin vAdd (dVar 1) (dC (.str sSet))) (gName 1))
    sNext) sNext)
    (sSeq (sRet (dTup (dCons (dVar 1) (dCons (dVar 2) (dCons (dMth RD [100, 101, 110, 105, 101, 100] (lev D k 25) (dVar 0) dNil) dNil)))))
    sNext))))) [some (.ref h.length), some (.str (fixed ts)), none] (h ++ [rb F ts])) := by
  obtain ⟨w, t, rfl, e1⟩ : ∃ w t, ts = w :: t ∧ fixed ts = w := by
    rcases hw with e | e
    · obtain ⟨t, rfl⟩ := fixed_cons e (by decide); exact ⟨_, t, rfl, e⟩
    · obtain ⟨t, rfl⟩ := fixed_cons e (by decide); exact ⟨_, t, rfl, e⟩
  rw [e1] at hw ⊢
  have hwt := wt_not (t := t) (w := w) (.inr hw)
  have s1 := (suf_cons hs).1
  rw [e_seq]
  refine Eq.subst (motive := fun x => SR TT F h (b, r) (SRes.andThen x _)) (f_aug (l := [some (.ref h.length), some (.str w), none]) (i := 0) rfl hs).symm ?_
  rw [SRes.andThen_nx]
  -- the header, then the rest
  have hn := rp_name hF s1 (l := [some (.ref h.length), some (.str w), none]) (i := 0) rfl (de := dC (.str sAny)) sAny rfl (k := k) (by omega)
  simp only [List.tail_cons] at z
  unfold hdr thn at z
  rcases e2 : nmP sAny t with ⟨b0, r0⟩
  rw [e2] at z hn
  cases b0 with
  | false =>
    simp only [Bool.false_eq_true, if_false] at z
    rcases z with ⟨z, rfl⟩ | ⟨r1, z, _⟩
    · cases z
      exact ⟨fun z => (by cases z), fun _ => ⟨_, asg_ex (hn.2 rfl)⟩⟩
    · cases z
  | true =>
    simp only [if_true] at z
    obtain ⟨v, hv, e3⟩ := hn.1 rfl
    obtain ⟨c, hc, _⟩ := loc_nm _ _ _ _ e2
    have s2 : Suf F r0 := suf_app (hc ▸ s1)
    obtain ⟨s, rfl⟩ : ∃ s, t = s :: r0 := by
      cases t with
      | nil => cases e2
      | cons s t =>
        simp only [nmP] at e2
        split at e2
        · cases e2; exact ⟨s, rfl⟩
        · cases e2
    rw [List.headD_cons] at hv
    subst hv
    rw [set_eq e3]
    have ht := rp_take hF s2 (l := [some (.ref h.length), some (.str w), some (.str s)]) (i := 0) rfl [58] (by decide) (k := k) (by omega)
    rcases e4 : tk [58] r0 with ⟨b1, r1⟩
    rw [e4] at z ht
    cases b1 with
    | false =>
      rcases z with ⟨z, rfl⟩ | ⟨r1, z, _⟩
      · cases z
        exact ⟨fun z => (by cases z), fun _ => ⟨_, expr_ex (ht.2 rfl)⟩⟩
      · cases z
    | true =>
      rcases z with ⟨z, rfl⟩ | ⟨r2, z, zz⟩
      · cases z
      simp only [Prod.mk.injEq, true_and] at z
      subst z
      obtain ⟨v, _, e5⟩ := ht.1 rfl
      obtain ⟨c2, hc2, _⟩ := loc_tk _ (by decide) _ _ _ e4
      have s3 : Suf F r1 := suf_app (hc2 ▸ s2)
      have hw3 : wt r1 ≤ wt r0 := by rw [hc2]; exact wt_sub
      have hw4 : wt r0 ≤ wt (s :: r0) := wt_cons_ge
      refine Eq.subst (motive := SR TT F h (b, r)) (expr_eq e5).symm ?_
      obtain ⟨p, e6⟩ := (suf_cons s1).2.2
      obtain ⟨q1, q2, q3⟩ := hF.tok _ (List.mem_of_getElem? e6)
      obtain ⟨m, rfl⟩ : ∃ m, k = m + 1 := ⟨k - 1, by omega⟩
      have ec : dTru (dCall (lev D (m + 1) 0) (dCons (dVar 2) dNil)) [some (.ref h.length), some (.str w), some (.str s)] (h ++ [rb F r1]) = .ok (isSet s) (h ++ [rb F r1]) := by
        simp only [e_tru, e_call, e_cons, dVar, List.getElem?_cons_succ, List.getElem?_cons_zero, Res.bind_ok, e_nil, isset_a q1 q2, vTru_bl]
      have last : ∀ w2 : Sy, SR TT F h (b, r) ((sSeq (sRet (dTup (dCons (dVar 1) (dCons (dVar 2) (dCons (dMth RD [100, 101, 110, 105, 101, 100] (lev D (m + 1) 25) (dVar 0) dNil) dNil))))) sNext) [some (.ref h.length), some (.str w2), some (.str s)] (h ++ [rb F r1])) := fun w2 => by
        refine sr_ret (ts := r1) ?_
        simp only [e_tup, e_cons, dVar, List.getElem?_cons_succ, List.getElem?_cons_zero, Res.bind_ok]
        have em := mth_ (F := F) (ts := r1) (h := h) (l := [some (.ref h.length), some (.str w2), some (.str s)]) (i := 0) (m := [100, 101, 110, 105, 101, 100]) (DD := lev D (m + 1) 25) rfl (e_nil ..)
        rw [em]
        have zq := zz (m + 1) (by omega)
        refine ⟨fun e => ?_, fun e => ?_⟩
        · obtain ⟨v, _, e2⟩ := zq.1 e
          refine ⟨.tup [.str w2, .str s, v], trivial, ?_⟩
          rw [e2]
          simp only [Res.bind_ok, e_nil]
          exact mk3 _ _ _ _
        · rw [zq.2 e]; rfl
      cases hq : isSet s with
      | true =>
        refine Eq.subst (motive := SR TT F h (b, r)) (if_t (ec.trans (by rw [hq]))).symm ?_
        have ew : (sSeq (sAsg (dBin vAdd (dVar 1) (dC (.str sSet))) (gName 1)) sNext) [some (.ref h.length), some (.str w), some (.str s)] (h ++ [rb F r1]) = .nx [some (.ref h.length), some (.str (w ++ sSet)), some (.str s)] (h ++ [rb F r1]) := by
          refine (set_eq (v := .str (w ++ sSet)) (h1 := h ++ [rb F r1]) ?_).trans rfl
          simp only [e_bin, dVar, List.getElem?_cons_succ, List.getElem?_cons_zero, Res.bind_ok, e_c]
          rcases hw with rfl | rfl <;> simp [vAdd, lineN]
        refine Eq.subst (motive := fun x => SR TT F h (b, r) (SRes.andThen x _)) ew.symm ?_
        exact last (w ++ sSet)
      | false =>
        exact Eq.subst (motive := SR TT F h (b, r)) (if_f (ec.trans (by rw [hq]))).symm (last w)
/-- the atoms behind their word -/
theorem sim_a (hF : FOk F) {w : Sy} {t : List Sy} (hw : fixed (w :: t) = w) (hm : w ∈ START) (n4 : w ≠ [40]) (hs : Suf F (w :: t)) {k : Nat} (hk : 3 ≤ k) (x : Option Val) :
    SR TT F h (atom w t) ((sSeq (sIf (dB (dBin vEq (dVar 1) (dC (.str [40])))) (sSeq (sAsg (dMth [82, 101, 97, 100, 101, 114] [101, 105, 116, 104, 101, 114] (lev D k 23) (dVar 0) dNil) (gName 3))
    (sSeq (sExpr (dMth [82, 101, 97, 100, 101, 114] [116, 97, 107, 101] (lev D k 21) (dVar 0) (dCons (dC (.str [41])) dNil)))
    (sSeq (sRet (dVar 3))
    sNext))) sNext)
    (sSeq (sIf (dB (dBin vEq (dVar 1) (dC (.str [116, 114, 117, 101])))) (sSeq (sRet (dTup (dCons (dC (.str [116, 114, 117, 101])) dNil)))
    sNext) sNext)
    (sSeq (sIf (dB (dBin vEq (dVar 1) (dC (.str [116, 111, 112])))) (sSeq (sRet (dTup (dCons (dC (.str [116, 111, 112])) (dCons (dMth [82, 101, 97, 100, 101, 114] [115, 105, 110, 103, 108, 101] (lev D k 27) (dVar 0) dNil) dNil))))
    sNext) sNext)
    (sSeq (sIf (dB (dBin vEq (dVar 1) (dC (.str [108, 97, 98, 101, 108])))) (sSeq (sAsg (dMth [82, 101, 97, 100, 101, 114] [110, 97, 109, 101] (lev D k 22) (dVar 0) (dCons (dC (.str [108, 97, 98, 101, 108])) dNil)) (gName 4))
    (sSeq (sRet (dTup (dCons (dC (.str [108, 97, 98, 101, 108])) (dCons (dVar 4) (dCons (dMth [82, 101, 97, 100, 101, 114] [115, 105, 110, 103, 108, 101] (lev D k 27) (dVar 0) dNil) dNil)))))
    sNext)) sNext)
    (sSeq (sIf (dB (dBin vEq (dVar 1) (dC (.str [99, 104, 105, 108, 100])))) (sSeq (sExpr (dMth [82, 101, 97, 100, 101, 114] [110, 101, 101, 100] (lev D k 19) (dVar 0) (dCons (dOrV (dBin vEq (dMth [82, 101, 97, 100, 101, 114] [102, 105, 120, 101, 100] (lev D k 20) (dVar 0) dNil) (dC (.str [48]))) (dBin vEq (dMth [82, 101, 97, 100, 101, 114] [102, 105, 120, 101, 100] (lev D k 20) (dVar 0) dNil) (dC (.str [49])))) dNil)))
    (sSeq (sAsg (dIf (dB (dBin vEq (dMth [82, 101, 97, 100, 101, 114] [102, 105, 120, 101, 100] (lev D k 20) (dVar 0) dNil) (dC (.str [48])))) (dC (.int 0)) (dC (.int 1))) (gName 5))
    (sSeq (sFldAug [82, 101, 97, 100, 101, 114] [97, 116] (dVar 0) (dC (.int 1)))
    (sSeq (sRet (dBin vAdd (dTup (dCons (dC (.str [99, 104, 105, 108, 100])) (dCons (dVar 5) dNil))) (dMth [82, 101, 97, 100, 101, 114] [112, 97, 105, 114] (lev D k 26) (dVar 0) (dCons (dC (.str [101, 108, 101, 109, 101, 110, 116])) (dCons (dC (.str [101, 108, 101, 109, 101, 110, 116])) dNil)))))
    sNext)))) sNext)
    (sSeq (sIf (dB (dBin vEq (dVar 1) (dC (.str [105, 110])))) (sSeq (sRet (dBin vAdd (dTup (dCons (dC (.str [105, 110])) dNil)) (dMth [82, 101, 97, 100, 101, 114] [112, 97, 105, 114] (lev D k 26) (dVar 0) (dCons (dC (.str [101, 108, 101, 109, 101, 110, 116])) (dCons (dC (.str [115, 101, 116])) dNil)))))
    sNext) sNext)
    (sSeq (sAsg (dIf (dB (dBin vEq (dVar 1) (dC (.str [105, 110, 115, 105, 100, 101])))) (dC (.str [115, 101, 116])) (dC (.str [101, 108, 101, 109, 101, 110, 116]))) (gName 2))
    (sSeq (sRet (dBin vAdd (dTup (dCons (dVar 1) dNil)) (dMth [82, 101, 97, 100, 101, 114] [112, 97, 105, 114] (lev D k 26) (dVar 0) (dCons (dVar 2) (dCons (dVar 2) dNil)))))
    sNext)))))))) [some (.ref h.length), some (.str w), none, none, none, none] (h ++ [rb F t])) := by
  have s1 := (suf_cons hs).1
  have l0 : ∀ x2 x3 x4 x5, ([some (Val.ref h.length), some (.str w), x2, x3, x4, x5] : GH.Loc)[0]? = some (some (.ref h.length)) := fun _ _ _ _ => rfl
  have ew : ∀ (u : Sy) x2 x3 x4 x5 ts, dB (dBin vEq (dVar 1) (dC (.str u))) [some (Val.ref h.length), some (.str w), x2, x3, x4, x5] (h ++ [rb F ts]) = .ok (decide (w = u)) (h ++ [rb F ts]) := fun u x2 x3 x4 x5 ts => eq_w rfl
  have ewt : ∀ (u : Sy), w = u → dB (dBin vEq (dVar 1) (dC (.str u))) [some (Val.ref h.length), some (.str w), none, none, none, none] (h ++ [rb F t]) = .ok true (h ++ [rb F t]) := fun u e => (ew u none none none none t).trans (by simp only [e, decide_true])
  have ewf : ∀ (u : Sy), w ≠ u → dB (dBin vEq (dVar 1) (dC (.str u))) [some (Val.ref h.length), some (.str w), none, none, none, none] (h ++ [rb F t]) = .ok false (h ++ [rb F t]) := fun u e => (ew u none none none none t).trans (by simp only [e, decide_false])
  have pairR : ∀ (a b : Sy) (pre : List Val) (l : GH.Loc) (dp : DenG (List Val)) (dq : Den) (ts : List Sy), Suf F ts → l[0]? = some (some (.ref h.length)) → pre.length ≤ 10 → dp l (h ++ [rb F ts]) = .ok [.str a, .str b] (h ++ [rb F ts]) → dq l (h ++ [rb F ts]) = .ok (.tup pre) (h ++ [rb F ts]) →
      RP TT F h (prr a b ts) (dBin vAdd dq (dMth RD [112, 97, 105, 114] (lev D k 26) (dVar 0) dp) l (h ++ [rb F ts])) := fun a b pre l dp dq ts hts hl hpre e1 e2 => by
    simp only [e_bin, e2, Res.bind_ok]
    rw [mth_ hl e1]
    refine rp_bind (pair_a hF hts a b hk) fun v H hv => ?_
    obtain ⟨a', b', rfl⟩ := hv
    refine ⟨.tup (pre ++ [a', b']), trivial, ?_⟩
    exact add_tup (by simp; omega)
  have sglR : ∀ (l : GH.Loc) (ts : List Sy), Suf F ts → l[0]? = some (some (.ref h.length)) → RP isS F h (sgl ts) (dMth RD [115, 105, 110, 103, 108, 101] (lev D k 27) (dVar 0) dNil l (h ++ [rb F ts])) := fun l ts hts hl => by
    rw [mth_ hl (e_nil ..)]
    exact single_a hF hts hk
  rw [if_f (ewf [40] n4)]
  by_cases w1 : w = wTrue
  · rw [if_t (ewt wTrue w1)]
    rw [show atom w t = (true, t) by rw [w1]; rfl]
    exact ⟨fun _ => ⟨.tup [.str wTrue], trivial, rfl⟩, fun z => (by cases z)⟩
  rw [if_f (ewf wTrue w1)]
  by_cases w2 : w = wTop
  · rw [if_t (ewt wTop w2)]
    rw [show atom w t = sgl t by rw [w2]; rfl]
    have z : RP TT F h (sgl t) (dTup (dCons (dC (.str [116, 111, 112])) (dCons (dMth [82, 101, 97, 100, 101, 114] [115, 105, 110, 103, 108, 101] (lev D k 27) (dVar 0) dNil) dNil)) [some (.ref h.length), some (.str w), none, none, none, none] (h ++ [rb F t])) := by
      simp only [e_tup, e_cons, e_c, Res.bind_ok]
      obtain ⟨z1, z2⟩ := sglR [some (.ref h.length), some (.str w), none, none, none, none] t s1 rfl
      refine ⟨fun e => ?_, fun e => ?_⟩
      · obtain ⟨v, _, e2⟩ := z1 e
        refine ⟨.tup [.str [116, 111, 112], v], trivial, ?_⟩
        rw [e2]
        simp only [Res.bind_ok, e_nil]
        exact mk2 _ _ _
      · rw [z2 e]; rfl
    have z2 := sr_ret (rest := sNext) z
    refine ⟨fun e => ?_, fun e => ?_⟩
    · obtain ⟨v, hv, e2⟩ := z2.1 e
      exact ⟨v, hv, by rw [e2]; rfl⟩
    · obtain ⟨l, e2⟩ := z2.2 e
      exact ⟨l, by rw [e2]; rfl⟩
  rw [if_f (ewf wTop w2)]
  have lift : ∀ (p : Rs) (a : SRes) (rest : Stm), SR TT F h p a → SR TT F h p (a.andThen rest) := fun p a rest z => by
    refine ⟨fun e => ?_, fun e => ?_⟩
    · obtain ⟨v, hv, e2⟩ := z.1 e
      exact ⟨v, hv, by rw [e2]; rfl⟩
    · obtain ⟨l, e2⟩ := z.2 e
      exact ⟨l, by rw [e2]; rfl⟩
  by_cases w3 : w = wLabel
  · rw [if_t (ewt wLabel w3)]
    rw [show atom w t = thn (nmP wLabel) sgl t by rw [w3]; rfl]
    refine lift _ _ _ ?_
    refine sr_set (loc_nm _) s1 (rp_name hF s1 rfl wLabel rfl (by omega)) fun r v _ s2 hv => ?_
    subst hv
    refine sr_ret ?_
    simp only [e_tup, e_cons, e_c, Res.bind_ok, dVar, List.set_cons_succ, List.set_cons_zero, List.getElem?_cons_succ, List.getElem?_cons_zero]
    obtain ⟨z1, z2⟩ := sglR [some (.ref h.length), some (.str w), none, none, some (.str (t.headD [])), none] r s2 rfl
    refine ⟨fun e => ?_, fun e => ?_⟩
    · obtain ⟨v, _, e2⟩ := z1 e
      refine ⟨.tup [.str [108, 97, 98, 101, 108], .str (t.headD []), v], trivial, ?_⟩
      rw [e2]
      simp only [Res.bind_ok, e_nil]
      exact mk3 _ _ _ _
    · rw [z2 e]; rfl
  rw [if_f (ewf wLabel w3)]
  by_cases w4 : w = wChild
  · rw [if_t (ewt wChild w4)]
    rw [show atom w t = thn dgt (prr sElem sElem) t by rw [w4]; rfl]
    refine lift _ _ _ ?_
    obtain ⟨m, rfl⟩ : ∃ m, k = m + 1 := ⟨k - 1, by omega⟩
    have ef : ∀ x2 x3 x4 x5, dMth [82, 101, 97, 100, 101, 114] [102, 105, 120, 101, 100] (lev D (m + 1) 20) (dVar 0) dNil [some (.ref h.length), some (.str w), x2, x3, x4, x5] (h ++ [rb F t]) = .ok (.str (fixed t)) (h ++ [rb F t]) := fun _ _ _ _ => fx_eq hF s1 rfl
    have ea : dCons (dOrV (dBin vEq (dMth [82, 101, 97, 100, 101, 114] [102, 105, 120, 101, 100] (lev D (m + 1) 20) (dVar 0) dNil) (dC (.str [48]))) (dBin vEq (dMth [82, 101, 97, 100, 101, 114] [102, 105, 120, 101, 100] (lev D (m + 1) 20) (dVar 0) dNil) (dC (.str [49])))) dNil [some (.ref h.length), some (.str w), none, none, none, none] (h ++ [rb F t]) = .ok [.bl (decide (fixed t = [48] ∨ fixed t = [49]))] (h ++ [rb F t]) := by
      simp only [e_cons, e_orv, e_bin, ef, Res.bind_ok, e_c, vEq_str, e_nil]
      by_cases q : fixed t = [48]
      · simp [q]
      · simp [q]
    have en := mth_ (F := F) (ts := t) (h := h) (m := [110, 101, 101, 100]) (DD := lev D (m + 1) 19) (l0 none none none none) ea
    unfold thn dgt
    by_cases q : fixed t = [48] ∨ fixed t = [49]
    · rw [if_pos q]
      simp only [if_true]
      obtain ⟨u, t', rfl⟩ : ∃ u t', t = u :: t' := by
        rcases q with q | q
        · obtain ⟨t', e⟩ := fixed_cons q (by decide); exact ⟨_, t', e⟩
        · obtain ⟨t', e⟩ := fixed_cons q (by decide); exact ⟨_, t', e⟩
      refine Eq.subst (motive := SR TT F h (prr sElem sElem t')) (expr_eq (v := .non) (h1 := h ++ [rb F (u :: t')]) (en.trans (by simp only [q, decide_true]; exact need_t))).symm ?_
      obtain ⟨way, hway⟩ : ∃ way, dIf (dB (dBin vEq (dMth [82, 101, 97, 100, 101, 114] [102, 105, 120, 101, 100] (lev D (m + 1) 20) (dVar 0) dNil) (dC (.str [48])))) (dC (.int 0)) (dC (.int 1)) [some (.ref h.length), some (.str w), none, none, none, none] (h ++ [rb F (u :: t')]) = .ok (.int way) (h ++ [rb F (u :: t')]) := by
        simp only [e_dif, e_b, e_bin, ef, Res.bind_ok, e_c, vEq_str, resB_bl]
        by_cases q : fixed (u :: t') = [48]
        · exact ⟨0, by simp [q]⟩
        · exact ⟨1, by simp [q]⟩
      refine Eq.subst (motive := SR TT F h (prr sElem sElem t')) (set_eq hway).symm ?_
      rw [e_seq]
      refine Eq.subst (motive := fun x => SR TT F h (prr sElem sElem t') (SRes.andThen x _)) (f_aug (l := [some (.ref h.length), some (.str w), none, none, none, some (.int way)]) (i := 0) rfl s1).symm ?_
      rw [SRes.andThen_nx]
      refine sr_ret (pairR sElem sElem [.str wChild, .int way] _ _ _ t' (suf_cons s1).1 rfl (by simp) rfl ?_)
      exact mk2 _ _ _
    · rw [if_neg q]
      simp only [Bool.false_eq_true, if_false]
      refine ⟨fun z => (by cases z), fun _ => ⟨_, expr_ex (en.trans ?_)⟩⟩
      simp only [q, decide_false]
      exact need_f hF s1
  rw [if_f (ewf wChild w4)]
  by_cases w5 : w = wIn
  · rw [if_t (ewt wIn w5)]
    rw [show atom w t = prr sElem sSet t by rw [w5]; rfl]
    refine lift _ _ _ (sr_ret (pairR sElem sSet [.str wIn] _ _ _ t s1 rfl (by simp) rfl ?_))
    simp [mkTup, lineN]
  rw [if_f (ewf wIn w5)]
  have lastR : ∀ q : Sy, SR TT F h (prr q q t) ((sSeq (sRet (dBin vAdd (dTup (dCons (dVar 1) dNil)) (dMth [82, 101, 97, 100, 101, 114] [112, 97, 105, 114] (lev D k 26) (dVar 0) (dCons (dVar 2) (dCons (dVar 2) dNil)))))
    sNext) [some (.ref h.length), some (.str w), some (.str q), none, none, none] (h ++ [rb F t])) := fun q => by
    refine sr_ret (pairR q q [.str w] _ _ _ t s1 rfl (by simp) rfl ?_)
    simp [mkTup, lineN, dVar]
  by_cases w6 : w = wInside
  · rw [set_eq (v := .str sSet) (h1 := h ++ [rb F t]) (by
      rw [e_dif]
      refine (congrArg (Res.bind · _) (ew wInside none none none none t)).trans ?_
      simp only [w6, decide_true]
      rfl)]
    rw [show atom w t = prr sSet sSet t by rw [w6]; rfl]
    exact lastR sSet
  · rw [set_eq (v := .str sElem) (h1 := h ++ [rb F t]) (by
      rw [e_dif]
      refine (congrArg (Res.bind · _) (ew wInside none none none none t)).trans ?_
      simp only [w6, decide_false]
      rfl)]
    rw [show atom w t = prr sElem sElem t by
      unfold atom
      rw [if_neg w1, if_neg w2, if_neg w3, if_neg w4, if_neg w5, if_neg w6]]
    exact lastR sElem
end
end L05
set_option Elab.async false
set_option linter.all false
set_option maxRecDepth 100000
set_option maxHeartbeats 1000000
set_option autoImplicit false
namespace L05
open GH PySem
section
variable {F : List Tk} {h : Hv}
theorem sr_then {G : Val → Prop} {p : Rs} {a : SRes} {rest : Stm} (z : SR G F h p a) : SR G F h p (a.andThen rest) := by
  refine ⟨fun e => ?_, fun e => ?_⟩
  · obtain ⟨v, hv, e2⟩ := z.1 e
    exact ⟨v, hv, by rw [e2]; rfl⟩
  · obtain ⟨l, e2⟩ := z.2 e
    exact ⟨l, by rw [e2]; rfl⟩
theorem sr_eq {G : Val → Prop} {p : Rs} {a b : SRes} (e : a = b) (z : SR G F h p b) : SR G F h p a := e ▸ z
theorem lp_eq {p : Rs} {a b : SRes} (e : a = b) (z : LP F h p b) : LP F h p a := e ▸ z
theorem rp_eq {G : Val → Prop} {p : Rs} {a b : Res Val} (e : a = b) (z : RP G F h p b) : RP G F h p a := e ▸ z
/-- what the loop leaves, returned -/
theorem lp_ret {p : Rs} {a : SRes} (z : LP F h p a) : SR TT F h p (a.andThen (sSeq (sRet (dVar 1)) sNext)) := by
  refine ⟨fun e => ?_, fun e => ?_⟩
  · obtain ⟨v, e2⟩ := z.1 e
    exact ⟨v, trivial, by rw [e2]; rfl⟩
  · obtain ⟨l, e2⟩ := z.2 e
    exact ⟨l, by rw [e2]; rfl⟩
/-- the way into simple -/
theorem sim_in (hF : FOk F) {ts : List Sy} (hs : Suf F ts) {k : Nat} : ∃ rest : Stm, b_Reader_simple (lev D (k + 1)) [some (.ref h.length), none, none, none, none, none] (h ++ [rb F ts]) = rest [some (.ref h.length), some (.str (fixed ts)), none, none, none, none] (h ++ [rb F ts]) ∧
    (fixed ts ∉ START → ∃ l, rest [some (.ref h.length), some (.str (fixed ts)), none, none, none, none] (h ++ [rb F ts]) = .exc (EX F ts) l (h ++ [rb F ts])) := by
  refine ⟨_, set_eq (v := .str (fixed ts)) (h1 := h ++ [rb F ts]) (fx_eq hF hs rfl), fun n => ⟨_, expr_ex ((mth_ (vs := [.bl false]) rfl ?_).trans (need_f hF hs))⟩⟩
  simp only [e_cons, e_bin, dVar, List.set_cons_succ, List.set_cons_zero, List.getElem?_cons_succ, List.getElem?_cons_zero, Res.bind_ok, e_tup, e_c, e_nil]
  rw [show mkTup [.str [40], .str [116, 114, 117, 101], .str [108, 97, 98, 101, 108], .str [99, 104, 105, 108, 100], .str [98, 101, 108, 111, 119], .str [115, 97, 109, 101], .str [105, 110], .str [105, 110, 115, 105, 100, 101], .str [116, 111, 112]] (h ++ [rb F ts]) = .ok (.tup (START.map .str)) (h ++ [rb F ts]) by simp [mkTup, lineN]; rfl]
  simp only [Res.bind_ok, vIn_tupTxt (L := START) (fixed_ok hF hs) (by decide +kernel)]
  rw [decide_eq_false n]
noncomputable def simR (Γ : Gam) : Stm := (sSeq (sIf (dB (dBin vEq (dVar 1) (dC (.str [40])))) (sSeq (sAsg (dMth [82, 101, 97, 100, 101, 114] [101, 105, 116, 104, 101, 114] (Γ 23) (dVar 0) dNil) (gName 3))
    (sSeq (sExpr (dMth [82, 101, 97, 100, 101, 114] [116, 97, 107, 101] (Γ 21) (dVar 0) (dCons (dC (.str [41])) dNil)))
    (sSeq (sRet (dVar 3))
    sNext))) sNext)
    (sSeq (sIf (dB (dBin vEq (dVar 1) (dC (.str [116, 114, 117, 101])))) (sSeq (sRet (dTup (dCons (dC (.str [116, 114, 117, 101])) dNil)))
    sNext) sNext)
    (sSeq (sIf (dB (dBin vEq (dVar 1) (dC (.str [116, 111, 112])))) (sSeq (sRet (dTup (dCons (dC (.str [116, 111, 112])) (dCons (dMth [82, 101, 97, 100, 101, 114] [115, 105, 110, 103, 108, 101] (Γ 27) (dVar 0) dNil) dNil))))
    sNext) sNext)
    (sSeq (sIf (dB (dBin vEq (dVar 1) (dC (.str [108, 97, 98, 101, 108])))) (sSeq (sAsg (dMth [82, 101, 97, 100, 101, 114] [110, 97, 109, 101] (Γ 22) (dVar 0) (dCons (dC (.str [108, 97, 98, 101, 108])) dNil)) (gName 4))
    (sSeq (sRet (dTup (dCons (dC (.str [108, 97, 98, 101, 108])) (dCons (dVar 4) (dCons (dMth [82, 101, 97, 100, 101, 114] [115, 105, 110, 103, 108, 101] (Γ 27) (dVar 0) dNil) dNil)))))
    sNext)) sNext)
    (sSeq (sIf (dB (dBin vEq (dVar 1) (dC (.str [99, 104, 105, 108, 100])))) (sSeq (sExpr (dMth [82, 101, 97, 100, 101, 114] [110, 101, 101, 100] (Γ 19) (dVar 0) (dCons (dOrV (dBin vEq (dMth [82, 101, 97, 100, 101, 114] [102, 105, 120, 101, 100] (Γ 20) (dVar 0) dNil) (dC (.str [48]))) (dBin vEq (dMth [82, 101, 97, 100, 101, 114] [102, 105, 120, 101, 100] (Γ 20) (dVar 0) dNil) (dC (.str [49])))) dNil)))
    (sSeq (sAsg (dIf (dB (dBin vEq (dMth [82, 101, 97, 100, 101, 114] [102, 105, 120, 101, 100] (Γ 20) (dVar 0) dNil) (dC (.str [48])))) (dC (.int 0)) (dC (.int 1))) (gName 5))
    (sSeq (sFldAug [82, 101, 97, 100, 101, 114] [97, 116] (dVar 0) (dC (.int 1)))
    (sSeq (sRet (dBin vAdd (dTup (dCons (dC (.str [99, 104, 105, 108, 100])) (dCons (dVar 5) dNil))) (dMth [82, 101, 97, 100, 101, 114] [112, 97, 105, 114] (Γ 26) (dVar 0) (dCons (dC (.str [101, 108, 101, 109, 101, 110, 116])) (dCons (dC (.str [101, 108, 101, 109, 101, 110, 116])) dNil)))))
    sNext)))) sNext)
    (sSeq (sIf (dB (dBin vEq (dVar 1) (dC (.str [105, 110])))) (sSeq (sRet (dBin vAdd (dTup (dCons (dC (.str [105, 110])) dNil)) (dMth [82, 101, 97, 100, 101, 114] [112, 97, 105, 114] (Γ 26) (dVar 0) (dCons (dC (.str [101, 108, 101, 109, 101, 110, 116])) (dCons (dC (.str [115, 101, 116])) dNil)))))
    sNext) sNext)
    (sSeq (sAsg (dIf (dB (dBin vEq (dVar 1) (dC (.str [105, 110, 115, 105, 100, 101])))) (dC (.str [115, 101, 116])) (dC (.str [101, 108, 101, 109, 101, 110, 116]))) (gName 2))
    (sSeq (sRet (dBin vAdd (dTup (dCons (dVar 1) dNil)) (dMth [82, 101, 97, 100, 101, 114] [112, 97, 105, 114] (Γ 26) (dVar 0) (dCons (dVar 2) (dCons (dVar 2) dNil)))))
    sNext))))))))
theorem sim_go (hF : FOk F) {w : Sy} {t : List Sy} (hw : fixed (w :: t) = w) (hm : w ∈ START) (hs : Suf F (w :: t)) {k : Nat} : b_Reader_simple (lev D (k + 1)) [some (.ref h.length), none, none, none, none, none] (h ++ [rb F (w :: t)]) = simR (lev D (k + 1)) [some (.ref h.length), some (.str w), none, none, none, none] (h ++ [rb F t]) := by
  unfold b_Reader_simple
  refine (set_eq (v := .str w) (h1 := h ++ [rb F (w :: t)]) ((fx_eq hF hs rfl).trans (by rw [hw]))).trans ?_
  have ow : okV (.str w) = true := by have := fixed_ok hF hs; rwa [hw] at this
  refine (expr_eq (v := .non) (h1 := h ++ [rb F (w :: t)]) ((mth_ (vs := [.bl true]) rfl ?_).trans need_t)).trans ?_
  · simp only [e_cons, e_bin, dVar, List.set_cons_succ, List.set_cons_zero, List.getElem?_cons_succ, List.getElem?_cons_zero, Res.bind_ok, e_tup, e_c, e_nil]
    rw [show mkTup [.str [40], .str [116, 114, 117, 101], .str [108, 97, 98, 101, 108], .str [99, 104, 105, 108, 100], .str [98, 101, 108, 111, 119], .str [115, 97, 109, 101], .str [105, 110], .str [105, 110, 115, 105, 100, 101], .str [116, 111, 112]] (h ++ [rb F (w :: t)]) = .ok (.tup (START.map .str)) (h ++ [rb F (w :: t)]) by simp [mkTup, lineN]; rfl]
    simp only [Res.bind_ok, vIn_tupTxt (L := START) ow (by decide +kernel)]
    rw [decide_eq_true hm]
  · rw [e_seq]
    exact congrArg (SRes.andThen · _) (f_aug rfl hs)
theorem run_a (hF : FOk F) {x : NT} {ts : List Sy} {b : Bool} {r : List Sy} (H : Run x ts b r) : Suf F ts → PM F h x ts b r := by
  induction H with
  | @q p ts r1 b r h1 h2 i1 i2 =>
    intro hs k hk
    obtain ⟨c, hc, _⟩ := loc h1
    have s1 : Suf F r1 := suf_app (hc ▸ hs)
    have w1 : wt r1 ≤ wt ts := by rw [hc]; exact wt_sub
    have := lvQ_ge p
    obtain ⟨m, rfl⟩ : ∃ m, k = m + 1 := ⟨k - 1, by omega⟩
    obtain ⟨v, _, e⟩ := (pm_nx (i1 hs) (k := m) (by omega)).1 rfl
    rw [lev_q]
    refine rp_run ?_
    unfold qall
    refine sr_eq (set_eq ((mth_ rfl (e_nil ..) (mn_ok p)).trans e)) ?_
    rw [e_seq]
    exact lp_ret (i2 s1 m (by omega) v)
  | @qb p ts r h1 i1 =>
    intro hs k hk
    have := lvQ_ge p
    obtain ⟨m, rfl⟩ : ∃ m, k = m + 1 := ⟨k - 1, by omega⟩
    have e := (pm_nx (i1 hs) (k := m) (by omega)).2 rfl
    rw [lev_q]
    refine rp_run ?_
    unfold qall
    exact ⟨fun z => (by cases z), fun _ => ⟨_, asg_ex ((mth_ rfl (e_nil ..) (mn_ok p)).trans e)⟩⟩
  | @ls p ts e =>
    intro hs k hk v0
    have := lvQ_ge p
    obtain ⟨m, rfl⟩ : ∃ m, k = m + 1 := ⟨k - 1, by omega⟩
    exact ⟨fun _ => ⟨v0, wh_f ((qc_a hF hs p).trans (by rw [decide_eq_false e]))⟩, fun z => (by cases z)⟩
  | @lb p ts r e h1 i1 =>
    intro hs k hk v0
    have := lvQ_ge p
    obtain ⟨m, rfl⟩ : ∃ m, k = m + 1 := ⟨k - 1, by omega⟩
    obtain ⟨t, rfl⟩ := fixed_cons e (wd_ne p)
    have w1 : wt t ≤ wt (wd p :: t) := wt_cons_ge
    have z := pm_nx (i1 (suf_cons hs).1) (k := m + 1) (by simp only [List.tail_cons]; omega)
    obtain ⟨l, e2⟩ := (qb_a hs p (v0 := v0) z).2 rfl
    refine ⟨fun z => (by cases z), fun _ => ⟨l, ?_⟩⟩
    rw [wh_t (h1 := h ++ [rb F (wd p :: t)]) ((qc_a hF hs p).trans (by rw [decide_eq_true e])), e2]
    rfl
  | @lg p ts r1 b r e h1 h2 i1 i2 =>
    intro hs k hk v0
    have := lvQ_ge p
    obtain ⟨m, rfl⟩ : ∃ m, k = m + 1 := ⟨k - 1, by omega⟩
    obtain ⟨t, rfl⟩ := fixed_cons e (wd_ne p)
    have w1 : wt t ≤ wt (wd p :: t) := wt_cons_ge
    have s0 := (suf_cons hs).1
    obtain ⟨c, hc, _⟩ := loc h1
    have hc : t = c ++ r1 := hc
    have s1 : Suf F r1 := suf_app (hc ▸ s0)
    have w2 : wt r1 ≤ wt t := by rw [hc]; exact wt_sub
    have z := pm_nx (i1 s0) (k := m + 1) (by simp only [List.tail_cons]; omega)
    obtain ⟨v, e2⟩ := (qb_a hs p (v0 := v0) z).1 rfl
    refine lp_eq ?_ (i2 s1 (m + 1) (by omega) v)
    rw [wh_t (h1 := h ++ [rb F (wd p :: t)]) ((qc_a hF hs p).trans (by rw [decide_eq_true e])), e2]
    rfl
  | @dn ts b r e h1 i1 =>
    intro hs k hk
    obtain ⟨m, rfl⟩ : ∃ m, k = m + 2 := ⟨k - 2, by omega⟩
    obtain ⟨t, rfl⟩ := fixed_cons e (by decide)
    have s0 := (suf_cons hs).1
    have w1 := wt_not (t := t) (w := wNot) (.inl rfl)
    show RP TT F h (b, r) (runDef 3 (b_Reader_denied (lev D (m + 1))) [.ref h.length] (h ++ [rb F (wNot :: t)]))
    refine rp_run ?_
    unfold b_Reader_denied
    refine sr_eq (set_eq (v := .str wNot) (h1 := h ++ [rb F (wNot :: t)]) ((fx_eq hF hs rfl).trans (by rw [e]))) ?_
    refine sr_eq (if_t (h1 := h ++ [rb F (wNot :: t)]) ((eq_w (w := wNot) rfl).trans rfl)) (sr_then ?_)
    rw [e_seq]
    refine sr_eq (congrArg (SRes.andThen · _) (f_aug rfl hs)) ?_
    refine sr_ret (ts := t) ?_
    have z := i1 s0 (m + 1) (by simp only [List.tail_cons]; omega)
    have em := mth_ (F := F) (ts := t) (h := h) (l := [some (.ref h.length), some (.str wNot), none]) (i := 0) (m := [100, 101, 110, 105, 101, 100]) (DD := lev D (m + 1) 25) rfl (e_nil ..)
    refine rp_eq (b := (lev D (m + 1) 25 [.ref h.length] (h ++ [rb F t])).bind fun v H => .ok (.tup [.str wNot, v]) H) ?_ (rp_bind z fun v H _ => ⟨_, trivial, rfl⟩)
    simp only [e_tup, e_cons, e_c, Res.bind_ok]
    refine (congrArg (fun x => Res.bind (Res.bind (Res.bind x _) _) _) em).trans ?_
    cases lev D (m + 1) 25 [.ref h.length] (h ++ [rb F t]) with
    | ok v H => exact mk2 _ _ _
    | exc x H => rfl
    | fail => rfl
  | @dh ts r e h1 =>
    intro hs k hk
    obtain ⟨m, rfl⟩ : ∃ m, k = m + 2 := ⟨k - 2, by omega⟩
    show RP TT F h (false, r) (runDef 3 (b_Reader_denied (lev D (m + 1))) [.ref h.length] (h ++ [rb F ts]))
    refine rp_run ?_
    unfold b_Reader_denied
    have n1 : fixed ts ≠ wNot := by rcases e with e | e <;> rw [e] <;> decide
    refine sr_eq (set_eq (v := .str (fixed ts)) (h1 := h ++ [rb F ts]) (fx_eq hF hs rfl)) ?_
    refine sr_eq (if_f (h1 := h ++ [rb F ts]) ((eq_w rfl).trans (by rw [decide_eq_false n1]))) ?_
    refine sr_eq (if_t (h1 := h ++ [rb F ts]) ?_) (sr_then (den_q hF hs e (by omega) (.inl ⟨h1, rfl⟩)))
    rw [e_or]
    refine (congrArg (Res.bind · _) (eq_w (w := fixed ts) rfl)).trans ?_
    rcases e with e | e <;> rw [e] <;> rfl
  | @dq ts r1 b r e h1 h2 i2 =>
    intro hs k hk
    obtain ⟨m, rfl⟩ : ∃ m, k = m + 2 := ⟨k - 2, by omega⟩
    show RP TT F h (b, r) (runDef 3 (b_Reader_denied (lev D (m + 1))) [.ref h.length] (h ++ [rb F ts]))
    refine rp_run ?_
    unfold b_Reader_denied
    have n1 : fixed ts ≠ wNot := by rcases e with e | e <;> rw [e] <;> decide
    obtain ⟨w, t, rfl⟩ : ∃ w t, ts = w :: t := by
      rcases e with e | e
      · obtain ⟨t, rfl⟩ := fixed_cons e (by decide); exact ⟨_, t, rfl⟩
      · obtain ⟨t, rfl⟩ := fixed_cons e (by decide); exact ⟨_, t, rfl⟩
    obtain ⟨c, hc, _⟩ := loc_hdr _ _ _ h1
    have hc : t = c ++ r1 := hc
    have s1 : Suf F r1 := suf_app (hc ▸ (suf_cons hs).1)
    refine sr_eq (set_eq (v := .str (fixed (w :: t))) (h1 := h ++ [rb F (w :: t)]) (fx_eq hF hs rfl)) ?_
    refine sr_eq (if_f (h1 := h ++ [rb F (w :: t)]) ((eq_w rfl).trans (by rw [decide_eq_false n1]))) ?_
    refine sr_eq (if_t (h1 := h ++ [rb F (w :: t)]) ?_) (sr_then (den_q hF hs e (by omega) (.inr ⟨r1, h1, i2 s1⟩)))
    rw [e_or]
    refine (congrArg (Res.bind · _) (eq_w (w := fixed (w :: t)) rfl)).trans ?_
    rcases e with e | e <;> rw [e] <;> rfl
  | @ds ts b r e1 e2 h1 i1 =>
    intro hs k hk
    obtain ⟨m, rfl⟩ : ∃ m, k = m + 2 := ⟨k - 2, by omega⟩
    show RP TT F h (b, r) (runDef 3 (b_Reader_denied (lev D (m + 1))) [.ref h.length] (h ++ [rb F ts]))
    refine rp_run ?_
    unfold b_Reader_denied
    refine sr_eq (set_eq (v := .str (fixed ts)) (h1 := h ++ [rb F ts]) (fx_eq hF hs rfl)) ?_
    refine sr_eq (if_f (h1 := h ++ [rb F ts]) ((eq_w rfl).trans (by rw [decide_eq_false e1]))) ?_
    refine sr_eq (if_f (h1 := h ++ [rb F ts]) ?_) (sr_ret (ts := ts) (rp_eq (mth_ rfl (e_nil ..)) (i1 hs (m + 1) (by omega))))
    rw [e_or]
    refine (congrArg (Res.bind · _) (eq_w (w := fixed ts) rfl)).trans ?_
    rw [decide_eq_false (fun z => e2 (.inl z))]
    simp only [Res.bind_ok, Bool.false_eq_true, if_false]
    refine (eq_w (w := fixed ts) rfl).trans ?_
    rw [decide_eq_false (fun z => e2 (.inr z))]
  | @sb ts e =>
    intro hs k hk
    obtain ⟨m, rfl⟩ : ∃ m, k = m + 2 := ⟨k - 2, by omega⟩
    show RP TT F h (false, ts) (runDef 6 (b_Reader_simple (lev D (m + 1))) [.ref h.length] (h ++ [rb F ts]))
    obtain ⟨rest, e1, e2⟩ := sim_in (h := h) hF hs (k := m)
    obtain ⟨l, e3⟩ := e2 e
    exact rp_run ⟨fun z => (by cases z), fun _ => ⟨l, e1.trans e3⟩⟩
  | @sp ts r1 b r e h1 h2 i1 =>
    intro hs k hk
    obtain ⟨m, rfl⟩ : ∃ m, k = m + 2 := ⟨k - 2, by omega⟩
    obtain ⟨t, rfl⟩ := fixed_cons e (by decide)
    have s0 := (suf_cons hs).1
    have w1 := wt_par (t := t)
    obtain ⟨c, hc, _⟩ := loc h1
    have hc : t = c ++ r1 := hc
    have s1 : Suf F r1 := suf_app (hc ▸ s0)
    obtain ⟨v, _, ez⟩ := (i1 s0 (m + 1) (by simp only [List.tail_cons, lvQ]; omega)).1 rfl
    show RP TT F h (b, r) (runDef 6 (b_Reader_simple (lev D (m + 1))) [.ref h.length] (h ++ [rb F ([40] :: t)]))
    refine rp_run (sr_eq (sim_go hF e (by decide) hs) ?_)
    unfold simR
    refine sr_eq (if_t (h1 := h ++ [rb F t]) ((eq_w (w := [40]) rfl).trans rfl)) (sr_then ?_)
    refine sr_eq (set_eq ((mth_ rfl (e_nil ..)).trans ez)) ?_
    rw [← h2]
    refine Eq.subst (motive := fun p => SR TT F h p _) (show thn (tk [41]) nop r1 = tk [41] r1 from ?_) (sr_expr (g := nop) (loc_tk _ (by decide)) s1 (rp_take hF s1 rfl [41] (by decide) (by omega)) fun r5 _ s5 => ⟨fun _ => ⟨v, trivial, ret_eq rfl⟩, fun z => (by cases z)⟩)
    unfold thn
    rcases tk [41] r1 with ⟨b, r⟩
    cases b <;> rfl
  | @spb ts r e h1 i1 =>
    intro hs k hk
    obtain ⟨m, rfl⟩ : ∃ m, k = m + 2 := ⟨k - 2, by omega⟩
    obtain ⟨t, rfl⟩ := fixed_cons e (by decide)
    have s0 := (suf_cons hs).1
    have w1 := wt_par (t := t)
    have ez := (i1 s0 (m + 1) (by simp only [List.tail_cons, lvQ]; omega)).2 rfl
    show RP TT F h (false, r) (runDef 6 (b_Reader_simple (lev D (m + 1))) [.ref h.length] (h ++ [rb F ([40] :: t)]))
    refine rp_run (sr_eq (sim_go hF e (by decide) hs) ?_)
    unfold simR
    refine sr_eq (if_t (h1 := h ++ [rb F t]) ((eq_w (w := [40]) rfl).trans rfl)) (sr_then ?_)
    exact ⟨fun z => (by cases z), fun _ => ⟨_, asg_ex ((mth_ rfl (e_nil ..)).trans ez)⟩⟩
  | @sa ts b r e e2 h1 =>
    intro hs k hk
    obtain ⟨m, rfl⟩ : ∃ m, k = m + 2 := ⟨k - 2, by omega⟩
    obtain ⟨t, ht⟩ := fixed_cons (ts := ts) rfl (st_ne e)
    have hw : fixed (fixed ts :: t) = fixed ts := by rw [← ht]
    generalize hu : fixed ts = w at *
    subst ht
    show RP TT F h (b, r) (runDef 6 (b_Reader_simple (lev D (m + 1))) [.ref h.length] (h ++ [rb F (w :: t)]))
    refine rp_run (sr_eq (sim_go hF hw e hs) ?_)
    rw [← h1]
    exact sim_a hF hw e e2 hs (by omega) none
end
end L05
set_option Elab.async false
set_option linter.all false
set_option maxRecDepth 100000
set_option maxHeartbeats 1000000
set_option autoImplicit false
namespace L05
open GH PySem
theorem lx_len : ∀ (l : List Nat) (p k : Nat), (lx p k l).length ≤ l.length
  | [], p, k => by simp [lx_nil]
  | c :: cs, p, k + 1 => by
    have := lx_len cs (p + 1) k
    show (lx (p + 1) k cs).length ≤ _
    simp only [List.length_cons]
    omega
  | c :: cs, p, 0 => by
    by_cases h : letB c = true
    · have := lx_len cs (p + 1) (cs.takeWhile alnB).length
      rw [lx_let h]
      simp only [List.length_cons]
      omega
    · have h : letB c = false := by simpa using h
      have := lx_len cs (p + 1) 0
      by_cases h2 : c = 32 ∨ c = 10
      · rw [lx_sp h h2]
        simp only [List.length_cons]
        omega
      · rw [lx_one h h2]
        simp only [List.length_cons]
        omega
theorem fok_lx {t : List Nat} (ht : t.length ≤ 100000) (ot : okV (.str t) = true) : FOk (lx 0 0 t) := by
  refine ⟨Nat.le_trans (lx_len t 0 0) ht, fun x hx => ?_⟩
  obtain ⟨a, b, c⟩ := (lx_facts t 0 0).1 x hx
  simp only [Tk.fin] at c
  exact ⟨b, by omega, okV_sub ot (lx_mem t 0 0 x hx)⟩
theorem tidy_okE {r : Res Val} {h : Hv} {v : Val} {g : Hv} (e : r = .ok v (h ++ g)) (o : okV v = true) : tidy r h = .ok v h :=
  eq_of (tidy_app (by rw [e]; exact ⟨⟨g, rfl⟩, o, rfl, rfl⟩))
section
variable {t : List Nat} (ht : t.length ≤ 100000) (ot : okV (.str t) = true) {h : Hv}
include ht ot
theorem init_a {k : Nat} : lev D (k + 2) 18 [.ref h.length, .str t] (h ++ [.ins RD []]) = .ok .non (h ++ [rb (lx 0 0 t) (syms t)]) := by
  show runDef 2 (b_Reader_init (lev D (k + 1))) [.ref h.length, .str t] (h ++ [.ins RD []]) = _
  refine run_nx (l' := [some (.ref h.length), some (.str t)]) ?_
  have io : ∀ fs, insOf RD (h ++ [.ins RD fs]) (.ref h.length) = some (h.length, fs) := fun fs => by simp [insOf]
  have s0 : ∀ o o' : Ob, (h ++ [o]).set h.length o' = h ++ [o'] := fun o o' => by simp
  unfold b_Reader_init
  have e1 : dCall (lev D (k + 1) 1) (dCons (dVar 1) dNil) [some (.ref h.length), some (.str t)] (h ++ [.ins RD []]) = .ok (.lst ((lx 0 0 t).map tkv)) (h ++ [.ins RD []]) := by
    simp only [e_call, e_cons, dVar, List.getElem?_cons_succ, List.getElem?_cons_zero, Res.bind_ok, e_nil, tokens_a ht ot]
  have hr : rb (lx 0 0 t) (syms t) = .ins RD [(nFd, .lst ((lx 0 0 t).map tkv)), (nAt, .int 0)] := by
    simp [rb, syms]
  simp only [List.map_cons, List.map_nil, List.cons_append, List.nil_append, List.length_cons, List.length_nil, Nat.sub_self, List.replicate, e_seq, e_asg]
  rw [e1]
  have p1 : ∀ a : Val, fput [102, 111, 117, 110, 100] a [] = [(nFd, a)] := fun a => rfl
  have p2 : ∀ a b : Val, fput [97, 116] b [(nFd, a)] = [(nFd, a), (nAt, b)] := fun a b => rfl
  simp only [Res.to_ok, gFld, dVar, List.getElem?_cons_succ, List.getElem?_cons_zero, Res.toT_ok, io, s0, TRes.s_ok, SRes.andThen_nx, e_c, e_next, List.length_nil, List.length_cons, hr,
    show (0 : Nat) < 1000 by omega, show (0 + 1 : Nat) < 1000 by omega, if_true, p1, p2, e_seq, e_asg]
theorem read_f {b : Bool} {r : List Sy} (H : Run (.Q true) (syms t) b r) {k : Nat} (hk : wt (syms t) + 8 ≤ k) :
    (b = true → r = [] → ∃ v g, lev D k 2 [.str t] h = .ok v (h ++ g)) ∧ (¬ (b = true ∧ r = []) → ∃ g, lev D k 2 [.str t] h = .exc ⟨SP, [(nSt, .int (place (lx 0 0 t) r))]⟩ (h ++ g)) := by
  obtain ⟨m, rfl⟩ : ∃ m, k = m + 3 := ⟨k - 3, by omega⟩
  have hF := fok_lx ht ot
  have hs : Suf (lx 0 0 t) (syms t) := suf_all _
  obtain ⟨c, hc, _⟩ := loc H
  have sr : Suf (lx 0 0 t) r := suf_app (hc ▸ hs)
  have z := run_a hF H hs (h := h) (m + 2) (by simp only [lvQ]; omega)
  have e1 : dMake RD (lev D (m + 2) 18) (dCons (dVar 0) dNil) [some (.str t), none, none] h = .ok (.ref h.length) (h ++ [rb (lx 0 0 t) (syms t)]) := by
    simp [dMake, dVar, init_a ht ot]
  have st : b_read_formula (lev D (m + 2)) [some (.str t), none, none] h = (sSeq (sAsg (dMth RD [101, 105, 116, 104, 101, 114] (lev D (m + 2) 23) (dVar 1) dNil) (gName 2))
    (sSeq (sExpr (dMth RD [110, 101, 101, 100] (lev D (m + 2) 19) (dVar 1) (dCons (dBin vGe (dFld RD nAt (dVar 1)) (dLen (dFld RD nFd (dVar 1)))) dNil)))
    (sSeq (sRet (dVar 2))
    sNext))) [some (.str t), some (.ref h.length), none] (h ++ [rb (lx 0 0 t) (syms t)]) := set_eq e1
  have em := mth_ (F := lx 0 0 t) (ts := syms t) (h := h) (l := [some (.str t), some (.ref h.length), none]) (i := 1) (m := [101, 105, 116, 104, 101, 114]) (DD := lev D (m + 2) 23) rfl (e_nil ..)
  have nd : ∀ (v : Val), dMth RD [110, 101, 101, 100] (lev D (m + 2) 19) (dVar 1) (dCons (dBin vGe (dFld RD nAt (dVar 1)) (dLen (dFld RD nFd (dVar 1)))) dNil) [some (.str t), some (.ref h.length), some v] (h ++ [rb (lx 0 0 t) r]) = lev D (m + 2) 19 [.ref h.length, .bl r.isEmpty] (h ++ [rb (lx 0 0 t) r]) := fun v => by
    refine mth_ rfl ?_
    have l1 : ([some (.str t), some (.ref h.length), some v] : GH.Loc)[1]? = some (some (.ref h.length)) := rfl
    simp only [e_cons, e_bin, e_len, f_at l1, f_fd l1, Res.bind_ok, vLen_lst, vGe_int, e_nil]
    have := suf_len sr
    have : decide ((((lx 0 0 t).map tkv).length : Int) ≤ ((lx 0 0 t).length - r.length : Nat)) = r.isEmpty := by
      cases r with
      | nil => simp
      | cons s r =>
        simp only [List.length_cons] at this
        simp
        omega
    rw [this]
  have run : ∀ {v : Val}, lev D (m + 2) 23 [.ref h.length] (h ++ [rb (lx 0 0 t) (syms t)]) = .ok v (h ++ [rb (lx 0 0 t) r]) → b_read_formula (lev D (m + 2)) [some (.str t), none, none] h = (sSeq (sExpr (dMth RD [110, 101, 101, 100] (lev D (m + 2) 19) (dVar 1) (dCons (dBin vGe (dFld RD nAt (dVar 1)) (dLen (dFld RD nFd (dVar 1)))) dNil)))
    (sSeq (sRet (dVar 2))
    sNext)) [some (.str t), some (.ref h.length), some v] (h ++ [rb (lx 0 0 t) r]) := fun {v} e => st.trans (set_eq (em.trans e))
  refine ⟨fun hb hr => ?_, fun n => ?_⟩
  · subst hb hr
    obtain ⟨v, _, e⟩ := z.1 rfl
    refine ⟨v, [rb (lx 0 0 t) []], ?_⟩
    show runDef 3 (b_read_formula (lev D (m + 2))) [.str t] h = _
    refine run_rt ((run e).trans ?_)
    refine (expr_eq (v := .non) (h1 := h ++ [rb (lx 0 0 t) []]) ((nd v).trans need_t)).trans rfl
  · show ∃ g, runDef 3 (b_read_formula (lev D (m + 2))) [.str t] h = _
    cases b with
    | false =>
      exact ⟨_, run_exc (l' := [some (.str t), some (.ref h.length), none]) (st.trans (asg_ex (em.trans (z.2 rfl))))⟩
    | true =>
      obtain ⟨v, _, e⟩ := z.1 rfl
      cases r with
      | nil => exact absurd ⟨rfl, rfl⟩ n
      | cons s r =>
        exact ⟨_, run_exc ((run e).trans (expr_ex ((nd v).trans (need_f hF sr))))⟩
/-- what the law hears of a text -/
def rdv (t : List Nat) (b : Bool) (r : List Sy) : Val := if b = true ∧ r = [] then .non else .int (place (lx 0 0 t) r)
theorem read_a {b : Bool} {r : List Sy} (H : Run (.Q true) (syms t) b r) {k : Nat} (hk : wt (syms t) + 9 ≤ k) : lev D k 13 [.str t] h = .ok (rdv t b r) h := by
  obtain ⟨m, rfl⟩ : ∃ m, k = m + 1 := ⟨k - 1, by omega⟩
  show tidy (runDef 2 (b__law_read (lev D m)) [.str t] h) h = _
  obtain ⟨z1, z2⟩ := read_f ht ot H (h := h) (k := m) (by omega)
  have e1 : dCall (lev D m 2) (dCons (dVar 0) dNil) [some (.str t), none] h = lev D m 2 [.str t] h := by
    simp only [e_call, e_cons, dVar, List.getElem?_cons_succ, List.getElem?_cons_zero, Res.bind_ok, e_nil]
  unfold rdv
  by_cases n : b = true ∧ r = []
  · rw [if_pos n]
    obtain ⟨v, g, e⟩ := z1 n.1 n.2
    refine tidy_okE (g := g) (run_rt ?_) rfl
    unfold b__law_read
    rw [e_seq]
    have : sSeq (sExpr (dCall (lev D m 2) (dCons (dVar 0) dNil))) sNext [some (.str t), none] h = .nx [some (.str t), none] (h ++ g) := expr_eq (e1.trans e)
    simp only [List.map_cons, List.map_nil, List.cons_append, List.nil_append, List.length_cons, List.length_nil, List.replicate]
    simp only [sTryFld]
    refine (congrArg (SRes.andThen · _) (show _ = SRes.nx [some (.str t), none] (h ++ g) from ?_)).trans rfl
    show (match sSeq (sExpr (dCall (lev D m 2) (dCons (dVar 0) dNil))) sNext [some (.str t), none] h with | .exc e l1 h1 => _ | r => r) = _
    rw [this]
  · rw [if_neg n]
    obtain ⟨g, e⟩ := z2 n
    refine tidy_okE (g := g) (run_rt ?_) rfl
    unfold b__law_read
    rw [e_seq]
    have : sSeq (sExpr (dCall (lev D m 2) (dCons (dVar 0) dNil))) sNext [some (.str t), none] h = .exc ⟨SP, [(nSt, .int (place (lx 0 0 t) r))]⟩ [some (.str t), none] (h ++ g) := expr_ex (e1.trans e)
    simp only [List.map_cons, List.map_nil, List.cons_append, List.nil_append, List.length_cons, List.length_nil, List.replicate]
    simp only [sTryFld]
    refine (congrArg (SRes.andThen · _) (show _ = SRes.rt (.int (place (lx 0 0 t) r)) (h ++ g) from ?_)).trans rfl
    show (match sSeq (sExpr (dCall (lev D m 2) (dCons (dVar 0) dNil))) sNext [some (.str t), none] h with | .exc e l1 h1 => _ | r => r) = _
    rw [this]
    rfl
end
end L05
set_option Elab.async false
set_option linter.all false
set_option maxRecDepth 100000
set_option maxHeartbeats 1000000
set_option autoImplicit false
namespace L05
open GH PySem
theorem take_l {k : Nat} {m : Int} {o : Ob} {g : Hv} {P : Val → Hv → Prop} (ho : TapeOb o) (hm : 0 < m) (hm2 : m < 1073741824)
    (kk : ∀ r o', 0 ≤ r → r < m → TapeOb o' → P (.int r) (o' :: g)) : ok (lev D (k + 1) 4 [.ref 0, .int m] (o :: g)) P := take_sp hm hm2 ho kk
/-- what the law holds equal -/
theorem same_int {k : Nat} {p : Int} {h : Hv} : lev D (k + 2) 7 [.int p, .int p] h = .ok (.bl true) h := by
  refine eq_of ?_
  show ok (runDef 3 (b__law_same (lev D (k + 1))) [.int p, .int p] h) _
  rw [ok_run]
  refine if_ (c := false) (h := h) (by simp [dVar, vIsN, isNon]) (fun z => by cases z) fun _ => if_ (c := false) (h := h) (by simp [dVar, tyOf, isiB]) (fun z => by cases z) fun _ => if_ (c := true) (h := h) (by simp [dVar, tyOf, isiB]) (fun _ => ret_ ?_) (fun z => by cases z)
  simp only [e_andv, e_call, e_cons, e_nil, dVar, List.map_cons, List.map_nil, List.cons_append, List.nil_append, List.getElem?_cons_succ, List.getElem?_cons_zero, Res.bind_ok, ok_bind]
  show ok (runDef 1 (b__law_is_integer (lev D k)) [.int p] h) _
  rw [ok_run]
  refine ret_ ?_
  simp [dVar, tyOf, isiB]
abbrev TY1 : List (List Nat × Nat) := [([108, 97, 98, 101, 108, 32, 97, 98, 40, 120, 41], 6), ([108, 97, 98, 101, 108, 32, 66, 40, 120, 41], 6), ([105, 110, 40, 88, 44, 32, 88, 41], 3), ([105, 110, 40, 120, 44, 32, 121, 41], 6), ([105, 110, 115, 105, 100, 101, 40, 120, 44, 32, 89, 41], 7), ([98, 101, 108, 111, 119, 40, 120, 44, 32, 89, 41], 9)]
abbrev TY2 : List (List Nat × Nat) := [([99, 104, 105, 108, 100, 32, 50, 40, 120, 44, 32, 121, 41], 6), ([99, 104, 105, 108, 100, 32, 48, 40, 88, 44, 32, 121, 41], 8), ([115, 111, 109, 101, 32, 58, 32, 116, 114, 117, 101], 5), ([97, 108, 108, 32, 120, 32, 116, 114, 117, 101], 6), ([110, 111, 116], 3), ([], 0)]
abbrev TY3 : List (List Nat × Nat) := [([40, 116, 114, 117, 101], 5), ([116, 114, 117, 101, 32, 116, 114, 117, 101], 5), ([116, 111, 112, 40, 120, 41, 32, 97, 110, 100], 10), ([115, 111, 109, 101, 32, 97, 110, 100, 58, 32, 116, 114, 117, 101], 5), ([108, 97, 98, 101, 108, 32, 97, 40, 88, 41], 8), ([115, 97, 109, 101, 40, 120, 32, 121, 41], 7)]
def tyv (q : List Nat × Nat) : Val := .tup [.str q.1, .int q.2]
def chk (q : List Nat × Nat) : Bool := decide (q.1.length ≤ 100) && okV (.str q.1) && decide (wt (syms q.1) ≤ 20) && (match par 60 (.Q true) (syms q.1) with
  | some (b, r) => !(b && r.isEmpty) && decide (place (lx 0 0 q.1) r = q.2)
  | none => false)
theorem chk_all : (TY1 ++ TY2 ++ TY3).all chk = true := by decide +kernel
theorem typed_read {q : List Nat × Nat} (hq : q ∈ TY1 ++ TY2 ++ TY3) {k : Nat} (hk : 29 ≤ k) {h : Hv} : lev D k 13 [.str q.1] h = .ok (.int q.2) h := by
  have c := List.all_eq_true.mp chk_all q hq
  unfold chk at c
  simp only [Bool.and_eq_true, decide_eq_true_eq] at c
  obtain ⟨⟨⟨c1, c2⟩, c3⟩, c4⟩ := c
  split at c4
  · rename_i b r e
    simp only [Bool.and_eq_true, decide_eq_true_eq, Bool.not_eq_true'] at c4
    rw [read_a (by omega) c2 (par_run 60 e) (by omega)]
    unfold rdv
    rw [if_neg, c4.2]
    rintro ⟨rfl, rfl⟩
    exact absurd c4.1 (by decide)
  · cases c4
theorem typed_sp {k : Nat} {o : Ob} {g : Hv} {P : Val → Hv → Prop} (hk : 30 ≤ k) (ho : TapeOb o) (kk : ∀ o', TapeOb o' → P (.bl true) (o' :: g)) : ok (lev D k 16 [.ref 0] (o :: g)) P := by
  obtain ⟨m, rfl⟩ : ∃ m, k = m + 1 := ⟨k - 1, by omega⟩
  show ok (runDef 4 (b__law_typed_right (lev D m)) [.ref 0] (o :: g)) P
  rw [ok_run]
  unfold b__law_typed_right
  refine asg_ (v := .lst (TY1.map tyv)) (h1 := o :: g) ?_ ?_
  · simp only [e_lst, e_cons, e_tup, e_c, e_nil, Res.bind_ok, mk2]
    rw [mkL_ok (by simp)]
    rfl
  show sok (sSeq _ _ [some (.ref 0), some (.lst (TY1.map tyv)), none, none] (o :: g)) _
  refine asg_ (v := .lst ((TY1 ++ TY2).map tyv)) (h1 := o :: g) ?_ ?_
  · simp only [e_bin, e_lst, e_cons, e_tup, e_c, e_nil, Res.bind_ok, mk2, dVar, List.getElem?_cons_succ, List.getElem?_cons_zero]
    rw [mkL_ok (by simp), Res.bind_ok, add_lst (by simp)]
    rfl
  show sok (sSeq _ _ [some (.ref 0), some (.lst ((TY1 ++ TY2).map tyv)), none, none] (o :: g)) _
  refine asg_ (v := .lst ((TY1 ++ TY2 ++ TY3).map tyv)) (h1 := o :: g) ?_ ?_
  · simp only [e_bin, e_lst, e_cons, e_tup, e_c, e_nil, Res.bind_ok, mk2, dVar, List.getElem?_cons_succ, List.getElem?_cons_zero]
    rw [mkL_ok (by simp), Res.bind_ok, add_lst (by simp)]
    rfl
  show sok (sSeq _ _ [some (.ref 0), some (.lst ((TY1 ++ TY2 ++ TY3).map tyv)), none, none] (o :: g)) _
  generalize hT : TY1 ++ TY2 ++ TY3 = T
  have hl : (T.map tyv).length = 18 := by rw [← hT]; rfl
  refine sok_seqo (fun l h => ∃ q o', q ∈ T ∧ TapeOb o' ∧ l = [some (.ref 0), some (.lst (T.map tyv)), some (.str q.1), some (.int q.2)] ∧ h = o' :: g) (fun R' hR => ?_) ?_
  · simp only [e_asg, e_bin, dVar, List.getElem?_cons_succ, List.getElem?_cons_zero, Res.bind_ok, e_call, e_cons, e_len, vLen_lst, hl, e_nil, sok_to, ok_bind]
    obtain ⟨n, rfl⟩ : ∃ n, m = n + 1 := ⟨m - 1, by omega⟩
    refine take_l ho (by omega) (by omega) fun r o' h0 h1 ho' => ?_
    obtain ⟨v, e1, e2⟩ := nth_of (l := T.map tyv) h0 (by rw [hl]; exact h1)
    obtain ⟨q, hq, rfl⟩ := List.mem_map.mp e2
    rw [vIx_lst e1]
    simp [gTup, gsCons, gsNil, tyv]
    exact hR _ _ ⟨q, o', hq, ho', rfl, rfl⟩
  · rintro l h ⟨q, o', hq, ho', rfl, rfl⟩
    refine ret_ ?_
    simp only [e_call, e_cons, dVar, List.getElem?_cons_succ, List.getElem?_cons_zero, Res.bind_ok, e_nil]
    rw [typed_read (hT ▸ hq) (by omega)]
    simp only [Res.bind_ok]
    obtain ⟨n, rfl⟩ : ∃ n, m = n + 2 := ⟨m - 2, by omega⟩
    rw [same_int]
    exact kk o' ho'
end L05
set_option Elab.async false
set_option linter.all false
set_option maxRecDepth 100000
set_option maxHeartbeats 1000000
set_option autoImplicit false
namespace L05
open GH PySem
/-! the law's formulas -/
abbrev EL : List Sy := [[120], [121], [122]]
abbrev ST : List Sy := [[88]]
def tBin (b : Bool) : Sy := if b then wAnd else wOr
def tQ (b : Bool) : Sy := if b then wSome else wAll
inductive At : Sy → List Sy → Prop
  | tr : At wTrue []
  | top {x : Sy} : x ∈ EL → At wTop [x]
  | same {x y : Sy} : x ∈ EL → y ∈ EL → At wSame [x, y]
  | below {x y : Sy} : x ∈ EL → y ∈ EL → At wBelow [x, y]
  | inn {x y : Sy} : x ∈ EL → y ∈ ST → At wIn [x, y]
  | ins {x y : Sy} : x ∈ ST → y ∈ ST → At wInside [x, y]
inductive Fm where
  | lab (a x : Sy) | chi (i : Int) (x y : Sy) | at (w : Sy) (ns : List Sy) | not (f : Fm) | bin (b : Bool) (f g : Fm) | q (b : Bool) (x : Sy) (f : Fm)
def Fm.val : Fm → Val
  | .lab a x => .tup [.str wLabel, .str a, .str x]
  | .chi i x y => .tup [.str wChild, .int i, .str x, .str y]
  | .at w ns => .tup (.str w :: ns.map .str)
  | .not f => .tup [.str wNot, f.val]
  | .bin b f g => .tup [.str (tBin b), f.val, g.val]
  | .q b x f => .tup [.str (tQ b), .str x, f.val]
def Fm.good : Fm → Prop
  | .lab a x => (a = [97] ∨ a = [98]) ∧ x ∈ EL
  | .chi i x y => (i = 0 ∨ i = 1) ∧ x ∈ EL ∧ y ∈ EL
  | .at w ns => At w ns
  | .not f => f.good
  | .bin _ f g => f.good ∧ g.good
  | .q _ x f => x ∈ EL ∧ f.good
def Fm.ht : Fm → Nat
  | .not f => f.ht + 1
  | .bin _ f g => max f.ht g.ht + 1
  | .q _ _ f => f.ht + 1
  | _ => 0
structure KOk (n : Int) (ls : List Sy) : Prop where
  n : n = 2
  l : ls = [[97], [98]]
theorem KOk.tx {n : Int} {ls : List Sy} (q : KOk n ls) : ∀ a ∈ ls, a = [97] ∨ a = [98] := by
  rw [q.l]; simp
abbrev InE (L : List Sy) : Prop := ∀ x ∈ L, x ∈ EL
abbrev InT (L : List Sy) : Prop := ∀ x ∈ L, x ∈ ST
theorem okE {L : List Sy} (h : InE L) : TxOk L := fun x hx => (by decide +kernel : ∀ x ∈ EL, okV (.str x) = true) x (h x hx)
theorem okT {L : List Sy} (h : InT L) : TxOk L := fun x hx => (by decide +kernel : ∀ x ∈ ST, okV (.str x) = true) x (h x hx)
theorem eq_nl {L : List Sy} {h : Hv} (o : TxOk L) : vEq (.lst (L.map .str)) (.lst []) h = .ok (.bl L.isEmpty) h ∧ vNe (.lst (L.map .str)) (.lst []) h = .ok (.bl (!L.isEmpty)) h := by
  have q := vEq_lnil (L.map .str) (okVs_txt o) h
  simpa using q
theorem pick {k : Nat} {o : Ob} {g : Hv} {L : List Sy} {Q : Val → Hv → Prop} (ho : TapeOb o) (hL : L ≠ []) (hl : L.length ≤ 1000) (z : ∀ x ∈ L, ∀ o', TapeOb o' → Q (.str x) (o' :: g)) :
    ok (lev D (k + 1) 4 [.ref 0, .int L.length] (o :: g)) fun v h => ok (vIx (.lst (L.map .str)) v h) Q := by
  have : 0 < L.length := List.length_pos_iff.mpr hL
  refine take_l ho (by omega) (by omega) fun r o' h0 h1 ho' => ?_
  obtain ⟨v, e1, e2⟩ := nth_of (l := L.map Val.str) h0 (by simpa using h1)
  obtain ⟨x, hx, rfl⟩ := List.mem_map.mp e2
  rw [vIx_lst e1]
  exact z x hx o' ho'
theorem pickT {k : Nat} {o : Ob} {g : Hv} {L : List Sy} {Q : Val → Hv → Prop} (ho : TapeOb o) (hL : L ≠ []) (hl : L.length ≤ 1000) (z : ∀ x ∈ L, ∀ o', TapeOb o' → Q (.str x) (o' :: g)) :
    ok (lev D (k + 1) 4 [.ref 0, .int L.length] (o :: g)) fun v h => ok (vIx (.tup (L.map .str)) v h) Q := by
  have : 0 < L.length := List.length_pos_iff.mpr hL
  refine take_l ho (by omega) (by omega) fun r o' h0 h1 ho' => ?_
  obtain ⟨v, e1, e2⟩ := nth_of (l := L.map Val.str) h0 (by simpa using h1)
  obtain ⟨x, hx, rfl⟩ := List.mem_map.mp e2
  rw [vIx_tup e1]
  exact z x hx o' ho'
abbrev tq (m : Int) (g : Hv) : Val → Hv → Prop := fun v h => ∃ r o', 0 ≤ r ∧ r < m ∧ TapeOb o' ∧ v = .int r ∧ h = o' :: g
abbrev pq (L : List Sy) (g : Hv) : Val → Hv → Prop := fun v h => ∃ x o', x ∈ L ∧ TapeOb o' ∧ v = .str x ∧ h = o' :: g
theorem take_q {k : Nat} {m : Int} {o : Ob} {g : Hv} (ho : TapeOb o) (hm : 0 < m) (hm2 : m < 1073741824) : ok (lev D (k + 1) 4 [.ref 0, .int m] (o :: g)) (tq m g) :=
  take_l ho hm hm2 fun r o' h0 h1 ho' => ⟨r, o', h0, h1, ho', rfl, rfl⟩
theorem gen_atom {k : Nat} {o : Ob} {g : Hv} {n : Int} {ls : List Sy} {S T : List Sy} {P : Val → Hv → Prop} (ho : TapeOb o) (kk : KOk n ls) (hS : InE S) (hT : InT T) (hSl : S.length ≤ 1000) (hTl : T.length ≤ 1000)
    (z : ∀ (f : Fm) o', f.good → f.ht = 0 → TapeOb o' → P f.val (o' :: g)) : ok (lev D (k + 2) 8 [.ref 0, .tup [.int n, .tup (ls.map .str)], .lst (S.map .str), .lst (T.map .str)] (o :: g)) P := by
  have hl : ls ≠ [] := by rw [kk.l]; simp
  have hl3 : ls.length ≤ 3 := by rw [kk.l]; simp
  show ok (runDef 7 (b__law_atom (lev D (k + 1))) [.ref 0, .tup [.int n, .tup (ls.map .str)], .lst (S.map .str), .lst (T.map .str)] (o :: g)) P
  rw [ok_run]; unfold b__law_atom
  refine asgq_ (tq 12 g) (by simp only [e_call, e_cons, dVar, e_c, e_nil, List.getElem?_cons_zero, List.map_cons, List.cons_append, Res.bind_ok]; exact take_q ho (by omega) (by omega)) ?_
  rintro v h ⟨r, o1, h0, h1, ho1, rfl, rfl⟩
  simp only [List.map_cons, List.map_nil, List.length_cons, List.length_nil, List.cons_append, List.nil_append, List.replicate, List.set_cons_succ, List.set_cons_zero]
  by_cases c1 : T.isEmpty = false ∧ (r < 4 ∨ S.isEmpty = true)
  · have hTn : T ≠ [] := by rintro rfl; cases c1.1
    refine if_ (c := true) ?_ (fun _ => ?_) (fun z => by cases z)
    · have e1 := (eq_nl (h := o1 :: g) (okT hT)).2
      have e2 := (eq_nl (h := o1 :: g) (okE hS)).1
      by_cases c2 : r < 4
      · simp [dVar, mkL_ok, e1, c1.1, c2]
      · have c3 := c1.2.resolve_left c2
        simp [dVar, mkL_ok, e1, e2, c1.1, c2, c3]
    by_cases c2 : S.isEmpty = true ∨ r = 0
    · refine if_ (c := true) ?_ (fun _ => ret_ ?_) (fun z => by cases z)
      · have e2 := (eq_nl (h := o1 :: g) (okE hS)).1
        by_cases c3 : S.isEmpty = true
        · simp [dVar, mkL_ok, e2, c3]
        · have c4 := c2.resolve_left c3
          simp [dVar, mkL_ok, e2, c3, c4]
      simp [dVar]
      refine pick ho1 hTn hTl fun X hX o2 ho2 => ?_
      refine pick ho2 hTn hTl fun Y hY o3 ho3 => ?_
      rw [mkT_ok (by simp)]
      exact z (.at wInside [X, Y]) o3 (.ins (hT X hX) (hT Y hY)) rfl ho3
    · have c3 : S.isEmpty = false := by cases h : S.isEmpty with
        | true => exact absurd (.inl h) c2
        | false => rfl
      have hSn : S ≠ [] := by rintro rfl; cases c3
      refine if_ (c := false) ?_ (fun z => by cases z) (fun _ => ret_ ?_)
      · have e2 := (eq_nl (h := o1 :: g) (okE hS)).1
        have c4 : ¬ r = 0 := fun h => c2 (.inr h)
        simp [dVar, mkL_ok, e2, c3, c4]
      simp [dVar]
      refine pick ho1 hSn hSl fun X hX o2 ho2 => ?_
      refine pick ho2 hTn hTl fun Y hY o3 ho3 => ?_
      rw [mkT_ok (by simp)]
      exact z (.at wIn [X, Y]) o3 (.inn (hS X hX) (hT Y hY)) rfl ho3
  · refine if_ (c := false) ?_ (fun z => by cases z) (fun _ => ?_)
    · have e1 := (eq_nl (h := o1 :: g) (okT hT)).2
      have e2 := (eq_nl (h := o1 :: g) (okE hS)).1
      cases c2 : T.isEmpty with
      | true => simp [dVar, mkL_ok, e1, c2]
      | false =>
        have c3 : ¬ r < 4 := fun h => c1 ⟨c2, .inl h⟩
        have c4 : S.isEmpty = false := by cases h : S.isEmpty with
          | true => exact absurd ⟨c2, .inr h⟩ c1
          | false => rfl
        simp [dVar, mkL_ok, e1, e2, c2, c3, c4]
    by_cases c2 : S.isEmpty = true
    · refine if_ (c := true) ?_ (fun _ => ret_ ?_) (fun z => by cases z)
      · simp [dVar, mkL_ok, (eq_nl (h := o1 :: g) (okE hS)).1, c2]
      simp [dVar, mkT_ok]
      exact z (.at wTrue []) o1 .tr rfl ho1
    have c3 : S.isEmpty = false := by simpa using c2
    have hSn : S ≠ [] := by rintro rfl; cases c3
    refine if_ (c := false) ?_ (fun z => by cases z) (fun _ => ?_)
    · simp [dVar, mkL_ok, (eq_nl (h := o1 :: g) (okE hS)).1, c3]
    refine asgq_ (pq S g) (by simp [dVar]; exact pick ho1 hSn hSl fun x hx o2 ho2 => ⟨x, o2, hx, ho2, rfl, rfl⟩) ?_
    rintro v h ⟨x, o2, hx, ho2, rfl, rfl⟩
    refine asgq_ (pq S g) (by simp [dVar]; exact pick ho2 hSn hSl fun x hx o2 ho2 => ⟨x, o2, hx, ho2, rfl, rfl⟩) ?_
    rintro v h ⟨y, o3, hy, ho3, rfl, rfl⟩
    simp only [List.set_cons_succ, List.set_cons_zero]
    by_cases c4 : r < 7
    · refine if_ (c := true) (by simp [dVar, c4]) (fun _ => ret_ ?_) (fun z => by cases z)
      simp [dVar]
      refine pickT ho3 hl (by omega) fun a ha o4 ho4 => ?_
      simp [mkT_ok]
      exact z (.lab a x) o4 ⟨kk.tx a ha, hS x hx⟩ rfl ho4
    refine if_ (c := false) (by simp [dVar, c4]) (fun z => by cases z) (fun _ => ?_)
    by_cases c5 : r = 7
    · refine if_ (c := true) (by simp [dVar, c5]) (fun _ => ret_ ?_) (fun z => by cases z)
      simp [dVar, mkT_ok]
      exact z (.at wTop [x]) o3 (.top (hS x hx)) rfl ho3
    refine if_ (c := false) (by simp [dVar, c5]) (fun z => by cases z) (fun _ => ?_)
    by_cases c6 : r = 8
    · refine if_ (c := true) (by simp [dVar, c6]) (fun _ => ret_ ?_) (fun z => by cases z)
      simp [dVar, mkT_ok]
      exact z (.at wSame [x, y]) o3 (.same (hS x hx) (hS y hy)) rfl ho3
    refine if_ (c := false) (by simp [dVar, c6]) (fun z => by cases z) (fun _ => ret_ ?_)
    by_cases c7 : r < 11
    · simp [dVar, c7]
      refine take_l ho3 (by rw [kk.n]; omega) (by rw [kk.n]; omega) fun i o4 i0 i1 ho4 => ?_
      simp [mkT_ok]
      exact z (.chi i x y) o4 ⟨by rw [kk.n] at *; omega, hS x hx, hS y hy⟩ rfl ho4
    · simp [dVar, c7, mkT_ok]
      exact z (.at wBelow [x, y]) o3 (.below (hS x hx) (hS y hy)) rfl ho3
theorem gen_matrix : ∀ (d : Nat) {k : Nat} {o : Ob} {g : Hv} {n : Int} {ls : List Sy} {S T : List Sy} {P : Val → Hv → Prop}, TapeOb o → KOk n ls → InE S → InT T → S.length + d ≤ 900 → T.length ≤ 900 →
    (∀ (f : Fm) o', f.good → f.ht ≤ d → TapeOb o' → P f.val (o' :: g)) → ok (lev D (k + d + 3) 9 [.ref 0, .tup [.int n, .tup (ls.map .str)], .lst (S.map .str), .lst (T.map .str), .int d] (o :: g)) P := by
  intro d
  induction d with
  | zero =>
    intro k o g n ls S T P ho kk hS hT hSl hTl z
    show ok (runDef 9 (b__law_matrix (lev D (k + 0 + 2))) [.ref 0, .tup [.int n, .tup (ls.map .str)], .lst (S.map .str), .lst (T.map .str), .int 0] (o :: g)) P
    rw [ok_run]; unfold b__law_matrix
    refine asgq_ (fun v h => v = .int 0 ∧ h = o :: g) (by simp [dVar]) ?_
    rintro v h ⟨rfl, rfl⟩
    refine if_ (c := true) (by simp [dVar]) (fun _ => ret_ ?_) (fun z => by cases z)
    simp [dVar]
    exact gen_atom ho kk hS hT (by omega) (by omega) fun f o' w e ho' => z f o' w (by omega) ho'
  | succ d ih =>
    intro k o g n ls S T P ho kk hS hT hSl hTl z
    have ed : ((d + 1 : Nat) : Int) - 1 = (d : Nat) := by omega
    show ok (runDef 9 (b__law_matrix (lev D (k + d + 3))) [.ref 0, .tup [.int n, .tup (ls.map .str)], .lst (S.map .str), .lst (T.map .str), .int (d + 1 : Nat)] (o :: g)) P
    rw [ok_run]; unfold b__law_matrix
    refine asgq_ (tq 8 g) ?_ ?_
    · simp only [e_dif, e_b, e_bin, dVar, List.getElem?_cons_succ, List.getElem?_cons_zero, List.map_cons, List.map_nil, List.cons_append, Res.bind_ok, e_c, vGt_int, resB_bl]
      rw [show decide ((0 : Int) < ((d + 1 : Nat) : Int)) = true from decide_eq_true (by omega)]
      simp only [if_true, e_call, e_cons, dVar, List.getElem?_cons_zero, Res.bind_ok, e_c, e_nil]
      exact take_q ho (by omega) (by omega)
    rintro v h ⟨r, o1, h0, h1, ho1, rfl, rfl⟩
    simp only [List.map_cons, List.map_nil, List.length_cons, List.length_nil, List.cons_append, List.nil_append, List.replicate, List.set_cons_succ, List.set_cons_zero]
    by_cases c1 : r < 3
    · refine if_ (c := true) (by simp [dVar, c1]) (fun _ => ret_ ?_) (fun z => by cases z)
      simp [dVar]
      exact gen_atom ho1 kk hS hT (by omega) (by omega) fun f o' w e ho' => z f o' w (by omega) ho'
    refine if_ (c := false) (by simp [dVar, c1]) (fun z => by cases z) (fun _ => ?_)
    by_cases c2 : r = 3
    · refine if_ (c := true) (by simp [dVar, c2]) (fun _ => ret_ ?_) (fun z => by cases z)
      simp [dVar, ed]
      refine ih ho1 kk hS hT (by omega) hTl fun f o2 w e ho2 => ?_
      rw [mkT_ok (by simp)]
      exact z (.not f) o2 w (by simp [Fm.ht]; omega) ho2
    refine if_ (c := false) (by simp [dVar, c2]) (fun z => by cases z) (fun _ => ?_)
    by_cases c3 : r < 7
    · refine if_ (c := true) (by simp [dVar, c3]) (fun _ => ?_) (fun z => by cases z)
      refine asgq_ (fun v h => ∃ (b : Bool) (o' : Ob), TapeOb o' ∧ v = .str (if b then [97, 110, 100] else [111, 114]) ∧ h = o' :: g) ?_ ?_
      · simp [dVar, mkL_ok]
        refine take_l ho1 (by omega) (by omega) fun q o2 q0 q1 ho2 => ?_
        obtain rfl | rfl : q = 0 ∨ q = 1 := by omega
        · rw [vIx_lst (v := .str [97, 110, 100]) rfl]; exact .inr ⟨o2, ho2, rfl, rfl⟩
        · rw [vIx_lst (v := .str [111, 114]) rfl]; exact .inl ⟨o2, ho2, rfl, rfl⟩
      rintro v h ⟨b, o2, ho2, rfl, rfl⟩
      refine asgq_ (fun v h => ∃ (f : Fm) (o' : Ob), f.good ∧ f.ht ≤ d ∧ TapeOb o' ∧ v = f.val ∧ h = o' :: g) ?_ ?_
      · simp [dVar, ed]
        exact ih ho2 kk hS hT (by omega) hTl fun f o3 w e ho3 => ⟨f, w, e, o3, ho3, rfl, rfl⟩
      rintro v h ⟨f1, o3, w1, e1, ho3, rfl, rfl⟩
      refine ret_ ?_
      simp [dVar, ed]
      refine ih ho3 kk hS hT (by omega) hTl fun f2 o4 w2 e2 ho4 => ?_
      rw [mkT_ok (by simp)]
      cases b with
      | true => exact z (.bin true f1 f2) o4 ⟨w1, w2⟩ (by simp [Fm.ht]; omega) ho4
      | false => exact z (.bin false f1 f2) o4 ⟨w1, w2⟩ (by simp [Fm.ht]; omega) ho4
    refine if_ (c := false) (by simp [dVar, c3]) (fun z => by cases z) (fun _ => ?_)
    refine asgq_ (fun v h => ∃ (b : Bool) (o' : Ob), TapeOb o' ∧ v = .str (if b then [115, 111, 109, 101] else [97, 108, 108]) ∧ h = o' :: g) ?_ ?_
    · simp [dVar, mkL_ok]
      refine take_l ho1 (by omega) (by omega) fun q o2 q0 q1 ho2 => ?_
      obtain rfl | rfl : q = 0 ∨ q = 1 := by omega
      · rw [vIx_lst (v := .str [115, 111, 109, 101]) rfl]; exact .inr ⟨o2, ho2, rfl, rfl⟩
      · rw [vIx_lst (v := .str [97, 108, 108]) rfl]; exact .inl ⟨o2, ho2, rfl, rfl⟩
    rintro v h ⟨b, o2, ho2, rfl, rfl⟩
    refine asgq_ (fun v h => ∃ x o', x ∈ EL ∧ TapeOb o' ∧ v = .str x ∧ h = o' :: g) ?_ ?_
    · simp [dVar, mkL_ok]
      refine take_l ho2 (by omega) (by omega) fun q o3 q0 q1 ho3 => ?_
      obtain rfl | rfl | rfl : q = 0 ∨ q = 1 ∨ q = 2 := by omega
      · rw [vIx_lst (v := .str [120]) rfl]; exact .inl ⟨o3, ho3, rfl, rfl⟩
      · rw [vIx_lst (v := .str [121]) rfl]; exact .inr (.inl ⟨o3, ho3, rfl, rfl⟩)
      · rw [vIx_lst (v := .str [122]) rfl]; exact .inr (.inr ⟨o3, ho3, rfl, rfl⟩)
    rintro v h ⟨x, o3, hx, ho3, rfl, rfl⟩
    refine ret_ ?_
    simp [dVar, ed, mkL_ok]
    rw [add_lst (by simp; omega)]
    simp [dVar, ed]
    rw [show S.map Val.str ++ [.str x] = (S ++ [x]).map .str by simp]
    refine ih ho3 kk (fun y hy => ?_) hT (by simp; omega) hTl fun f o4 w e ho4 => ?_
    · rcases List.mem_append.mp hy with hy | hy
      · exact hS y hy
      · rw [List.mem_singleton.mp hy]; exact hx
    · rw [mkT_ok (by simp)]
      exact z (.q b x f) o4 ⟨hx, w⟩ (by simp [Fm.ht]; omega) ho4
end L05
set_option Elab.async false
set_option linter.all false
set_option maxRecDepth 100000
set_option maxHeartbeats 1000000
set_option autoImplicit false
namespace L05
open GH PySem
/-! texts that grow -/
abbrev nTx : Sy := [116, 101, 120, 116]
def outd (u : List Nat) : Ob := .dic [(.str nTx, .str u)]
structure Gs (s : Sy) : Prop where
  wrd : Wrd s
  ne : s ≠ []
  len : s.length ≤ 10
  okv : okV (.str s) = true
structure Pt (u : List Nat) (ss : List Sy) (u' : List Nat) : Prop where
  sy : syms u' = syms u ++ ss
  len : u'.length ≤ u.length + 12 * ss.length
  okv : okV (.str u) = true → okV (.str u') = true
  gs : ∀ s ∈ ss, Gs s
theorem Pt.refl (u : List Nat) : Pt u [] u := ⟨by simp, by simp, id, fun s hs => by cases hs⟩
theorem Pt.trans {u v w : List Nat} {a b : List Sy} (h1 : Pt u a v) (h2 : Pt v b w) : Pt u (a ++ b) w := by
  refine ⟨by rw [h2.sy, h1.sy, List.append_assoc], ?_, fun h => h2.okv (h1.okv h), fun s hs => ?_⟩
  · have := h1.len
    have := h2.len
    simp only [List.length_append]
    omega
  · rcases List.mem_append.mp hs with hs | hs
    · exact h1.gs s hs
    · exact h2.gs s hs
def gsB (s : Sy) : Bool := (match s with
  | [] => false
  | c :: cs => (letB c && cs.all alnB) || (cs.isEmpty && decide (c ≠ 32) && decide (c ≠ 10))) && decide (s.length ≤ 10) && okV (.str s)
theorem gs_of {s : Sy} (h : gsB s = true) : Gs s := by
  unfold gsB at h
  simp only [Bool.and_eq_true, decide_eq_true_eq] at h
  obtain ⟨⟨h1, h2⟩, h3⟩ := h
  cases s with
  | nil => cases h1
  | cons c cs =>
    refine ⟨wrd_of ⟨c, cs, rfl, ?_⟩, by simp, h2, h3⟩
    simp only [Bool.or_eq_true, Bool.and_eq_true, decide_eq_true_eq] at h1
    rcases h1 with h1 | h1
    · exact .inl h1
    · exact .inr ⟨by simpa using h1.1.1, h1.1.2, h1.2⟩
theorem okV_app {a b : List Nat} (h1 : okV (.str a) = true) (h2 : okV (.str b) = true) : okV (.str (a ++ b)) = true := by
  simp only [okV, List.all_append, Bool.and_eq_true] at *
  exact ⟨h1, h2⟩
theorem pt_put {u g : List Nat} {s : Sy} (hs : Gs s) (hg : ∀ c ∈ g, c = 32 ∨ c = 10) (hl : g.length ≤ 2) (hb : g = [] → Bd u s) : Pt u [s] (u ++ g ++ s) := by
  refine ⟨syms_put hg hs.wrd hb, ?_, fun h => okV_app (okV_app h ?_) hs.okv, fun x hx => by rw [List.mem_singleton.mp hx]; exact hs⟩
  · have := hs.len
    simp only [List.length_append, List.length_cons, List.length_nil]
    omega
  · simp only [okV, List.all_eq_true, decide_eq_true_eq]
    intro c hc
    rcases hg c hc with rfl | rfl <;> omega
theorem cut_end (u : List Nat) : cut u (some (-1)) none = u.drop (u.length - 1) := by
  have e : HT.sIx u.length 0 (some (-1)) = u.length - 1 := by
    show (if (-1 : Int) < 0 then ((-1 : Int) + (u.length : Nat)).toNat else min (-1 : Int).toNat u.length) = _
    rw [if_pos (by omega)]
    omega
  unfold cut
  rw [e, HT.sIx_none]
  exact List.take_of_length_le (by simp)
theorem vIx_out {u : List Nat} {o : Ob} {g : Hv} : vIx (.ref 1) (.str nTx) (o :: outd u :: g) = .ok (.str u) (o :: outd u :: g) := nrfl rfl
theorem vSet_out {u v : List Nat} {o : Ob} {g : Hv} : vSet (.ref 1) (.str nTx) (.str v) (o :: outd u :: g) = some (o :: outd v :: g) := by
  simp [vSet, outd, keyOf, lineN]
  rfl
theorem last_or (u : List Nat) : u = [] ∨ ∃ a x, u = a ++ [x] := by
  rcases List.eq_nil_or_concat u with rfl | ⟨a, x, rfl⟩
  · exact .inl rfl
  · exact .inr ⟨a, x, by simp⟩
theorem put_sp {k : Nat} {o : Ob} {g : Hv} {u : List Nat} {s : Sy} {P : Val → Hv → Prop} (ho : TapeOb o) (hu : u.length ≤ 50000) (hs : Gs s)
    (kk : ∀ u' o', Pt u [s] u' → TapeOb o' → P .non (o' :: outd u' :: g)) : ok (lev D (k + 2) 10 [.ref 0, .ref 1, .str s] (o :: outd u :: g)) P := by
  show ok (runDef 6 (b__law_put (lev D (k + 1))) [.ref 0, .ref 1, .str s] (o :: outd u :: g)) P
  rw [ok_run]
  unfold b__law_put
  show sok (sSeq _ _ [some (.ref 0), some (.ref 1), some (.str s), none, none, none] (o :: outd u :: g)) _
  refine asg_ (v := .str (u.drop (u.length - 1))) (h1 := o :: outd u :: g) ?_ ?_
  · simp only [e_cut, e_bin, dVar, List.getElem?_cons_succ, List.getElem?_cons_zero, Res.bind_ok, e_c, e_osome, e_neg, e_onone]
    rw [show vIx (.ref 1) (.str [116, 101, 120, 116]) (o :: outd u :: g) = _ from vIx_out]
    simp only [Res.bind_ok, vCut]
    rw [if_pos (show u.length ≤ lineN by unfold lineN; omega), cut_end]
  refine asg_ (v := .str (LET ++ DIG)) (h1 := o :: outd u :: g) rfl ?_
  show sok (sSeq _ _ [some (.ref 0), some (.ref 1), some (.str s), some (.str (u.drop (u.length - 1))), some (.str (LET ++ DIG)), none] (o :: outd u :: g)) _
  refine asgo_ (fun v h => ∃ (q : List Nat) (o' : Ob), (∀ c ∈ q, c = 32 ∨ c = 10) ∧ q.length ≤ 2 ∧ TapeOb o' ∧ v = .str q ∧ h = o' :: outd u :: g) (fun Q' hQ => ?_) ?_
  · simp only [e_bin, e_lst, e_cons, e_c, e_nil, Res.bind_ok, e_call, dVar, List.getElem?_cons_zero, ok_bind]
    rw [mkL_ok (by simp)]
    simp only [ok_ok]
    refine take_l ho (by omega) (by omega) fun r o' h0 h1 ho' => ?_
    rw [vDiv_ok _ (show (0 : Int) < 4 by omega) (show (4 : Int) < 1073741824 by omega)]
    simp only [ok_ok]
    obtain e | e | e | e : r / 4 = 0 ∨ r / 4 = 1 ∨ r / 4 = 2 ∨ r / 4 = 3 := by omega
    · rw [e, vIx_lst (v := .str [32]) rfl]; exact hQ _ _ ⟨[32], o', by simp, by simp, ho', rfl, rfl⟩
    · rw [e, vIx_lst (v := .str []) rfl]; exact hQ _ _ ⟨[], o', by simp, by simp, ho', rfl, rfl⟩
    · rw [e, vIx_lst (v := .str [10]) rfl]; exact hQ _ _ ⟨[10], o', by simp, by simp, ho', rfl, rfl⟩
    · rw [e, vIx_lst (v := .str [32, 32]) rfl]; exact hQ _ _ ⟨[32, 32], o', by simp, by simp, ho', rfl, rfl⟩
  rintro v h ⟨q, o', hq, hq2, ho', rfl, rfl⟩
  show sok (sSeq _ _ [some (.ref 0), some (.ref 1), some (.str s), some (.str (u.drop (u.length - 1))), some (.str (LET ++ DIG)), some (.str q)] (o' :: outd u :: g)) _
  have fin : ∀ q : List Nat, (∀ c ∈ q, c = 32 ∨ c = 10) → q.length ≤ 2 → (q = [] → Bd u s) → sok ((sSeq (sAsg (dBin vAdd (dBin vAdd (dBin vIx (dVar 1) (dC (.str [116, 101, 120, 116]))) (dVar 5)) (dVar 2)) (gSub (dVar 1) (dC (.str [116, 101, 120, 116])))) sNext)
      [some (.ref 0), some (.ref 1), some (.str s), some (.str (u.drop (u.length - 1))), some (.str (LET ++ DIG)), some (.str q)] (o' :: outd u :: g)) { nx := fun _ h => P .non h, rt := P } := fun q hq hq2 hb => by
    have hsl := hs.len
    simp only [e_seq, e_asg, e_bin, dVar, List.getElem?_cons_succ, List.getElem?_cons_zero, Res.bind_ok, e_c]
    rw [show vIx (.ref 1) (.str [116, 101, 120, 116]) (o' :: outd u :: g) = _ from vIx_out]
    simp only [Res.bind_ok]
    rw [show vAdd (.str u) (.str q) (o' :: outd u :: g) = .ok (.str (u ++ q)) (o' :: outd u :: g) by simp only [vAdd]; rw [if_pos (by unfold lineN; omega)]]
    simp only [Res.bind_ok]
    rw [show vAdd (.str (u ++ q)) (.str s) (o' :: outd u :: g) = .ok (.str (u ++ q ++ s)) (o' :: outd u :: g) by simp only [vAdd]; rw [if_pos (by unfold lineN; simp only [List.length_append]; omega)]]
    simp only [Res.to_ok, e_sub, dVar, List.getElem?_cons_succ, List.getElem?_cons_zero, Res.toT_ok, e_c]
    rw [show vSet (.ref 1) (.str [116, 101, 120, 116]) (.str (u ++ q ++ s)) (o' :: outd u :: g) = _ from vSet_out]
    exact kk _ _ (pt_put hs hq hq2 hb) ho'
  obtain ⟨c, cs, rfl⟩ : ∃ c cs, s = c :: cs := by
    cases s with
    | nil => exact absurd rfl hs.ne
    | cons c cs => exact ⟨c, cs, rfl⟩
  have hx0 : vIx (.str (c :: cs)) (.int 0) (o' :: outd u :: g) = .ok (.str [c]) (o' :: outd u :: g) := ix_str (p := 0) (by have := hs.len; omega) rfl
  by_cases hq0 : q = []
  · subst hq0
    rcases last_or u with rfl | ⟨a, x, rfl⟩
    · refine if_ (c := false) ?_ (fun z => by cases z) fun _ => fin [] hq hq2 (fun _ x hx => by cases hx)
      simp [dVar]
    · have hd : (a ++ [x]).drop ((a ++ [x]).length - 1) = [x] := by simp
      have hc : (dAnd (dB (dBin vEq (dVar 5) (dC (.str [])))) (dAnd (dB (dBin vNe (dVar 3) (dC (.str [])))) (dAnd (dB (dBin vIn (dVar 3) (dVar 4))) (dB (dBin vIn (dBin vIx (dVar 2) (dC (.int 0))) (dVar 4)))))) [some (.ref 0), some (.ref 1), some (.str (c :: cs)), some (.str ((a ++ [x]).drop ((a ++ [x]).length - 1))), some (.str (LET ++ DIG)), some (.str [])] (o' :: outd (a ++ [x]) :: g) = .ok (alnB x && alnB c) (o' :: outd (a ++ [x]) :: g) := by
        rw [hd]
        simp only [e_and, e_b, e_bin, dVar, List.getElem?_cons_succ, List.getElem?_cons_zero, Res.bind_ok, e_c, vEq_str, resB_bl, vNe_str, in_str, aln_has, hx0]
        cases alnB x <;> simp
      refine if_ (c := alnB x && alnB c) hc (fun z => ?_) fun z => fin [] hq hq2 (fun _ x' hx' y hy w => ?_)
      · refine asg_ (v := .str [32]) rfl ?_
        exact fin [32] (by simp) (by simp) (fun z => by cases z)
      · simp only [List.getLast?_append, List.getLast?_singleton, Option.some_or] at hx'
        cases hx'
        cases hy
        rw [w.1, w.2] at z
        cases z
  · refine if_ (c := false) ?_ (fun z => by cases z) fun _ => fin q hq hq2 (fun z => absurd z hq0)
    simp [dVar, hq0]
theorem putL {k : Nat} {L0 : List Val} {P : Val → Hv → Prop} : ∀ (L : List Sy) {o : Ob} {g : Hv} {u : List Nat} {x : Option Val}, TapeOb o → u.length + 12 * L.length ≤ 50000 → (∀ s ∈ L, Gs s) →
    (∀ u' o', Pt u L u' → TapeOb o' → P .non (o' :: outd u' :: g)) →
    sok (forL (gName 3) (sSeq (sExpr (dCall (lev D (k + 2) 10) (dCons (dVar 0) (dCons (dVar 1) (dCons (dVar 3) dNil))))) sNext) (L0, none) (L.map .str) [some (.ref 0), some (.ref 1), some (.lst L0), x] (o :: outd u :: g)) { nx := fun _ h => P .non h, rt := P }
  | [], o, g, u, x, ho, hu, hL, kk => by
    rw [List.map_nil, for_nil]
    exact kk u o (Pt.refl u) ho
  | s :: L, o, g, u, x, ho, hu, hL, kk => by
    simp only [List.length_cons] at hu
    rw [List.map_cons, for_cons (l1 := [some (.ref 0), some (.ref 1), some (.lst L0), some (.str s)]) rfl]
    rw [sok_turn, e_seq, sok_then, e_expr, sok_to]
    simp only [e_call, e_cons, dVar, List.getElem?_cons_succ, List.getElem?_cons_zero, Res.bind_ok, e_nil]
    refine put_sp ho (by omega) (hL s (List.mem_cons_self ..)) fun u' o' hp ho' => ?_
    simp only [sok_nx, e_next]
    refine putL L ho' (by have := hp.len; simp only [List.length_cons, List.length_nil] at this; omega) (fun s hs => hL s (List.mem_cons_of_mem _ hs)) fun u2 o2 hp2 ho2 => kk u2 o2 (hp.trans hp2) ho2
theorem putall_sp {k : Nat} {o : Ob} {g : Hv} {u : List Nat} {L : List Sy} {P : Val → Hv → Prop} (ho : TapeOb o) (hu : u.length + 12 * L.length ≤ 50000) (hL : ∀ s ∈ L, Gs s)
    (kk : ∀ u' o', Pt u L u' → TapeOb o' → P .non (o' :: outd u' :: g)) : ok (lev D (k + 3) 11 [.ref 0, .ref 1, .lst (L.map .str)] (o :: outd u :: g)) P := by
  show ok (runDef 4 (b__law_put_all (lev D (k + 2))) [.ref 0, .ref 1, .lst (L.map .str)] (o :: outd u :: g)) P
  rw [ok_run]
  unfold b__law_put_all
  rw [e_seq, sok_then, e_for]
  simp only [List.map_cons, List.map_nil, List.cons_append, List.nil_append, List.length_cons, List.length_nil, List.replicate, e_iseq, dVar, List.getElem?_cons_succ, List.getElem?_cons_zero, Res.bind_ok, vIter_lst, Res.to_ok, e_next, sok_nx]
  exact putL L ho hu hL kk
/-! what is taken -/
def AccD (T : List Sy) : Prop := ∀ r, Run .D (T ++ r) true r
def AccB (T : List Sy) : Prop := ∀ r b r2, Run (.L false) r b r2 → Run (.Q false) (T ++ r) b r2
def AccE (T : List Sy) : Prop := ∀ r b r2, fixed r ≠ wAnd → Run (.L true) r b r2 → Run (.Q true) (T ++ r) b r2
theorem AccD.b {T : List Sy} (h : AccD T) : AccB T := fun r b r2 z => .q (h r) z
theorem AccB.e {T : List Sy} (h : AccB T) : AccE T := fun r b r2 n z => .q (h r true r (.ls n)) z
theorem acc_par {T : List Sy} (h : AccE T) : AccD ([40] :: (T ++ [[41]])) := fun r => by
  refine .ds (show fixed [[40]] ≠ wNot from by decide) (show ¬ (fixed [[40]] = wSome ∨ fixed [[40]] = wAll) from by decide) ?_
  refine .sp (r1 := [41] :: r) rfl ?_ rfl
  show Run (.Q true) (T ++ [[41]] ++ r) true ([41] :: r)
  rw [List.append_assoc]
  exact h ([41] :: r) true ([41] :: r) (by show fixed [[41]] ≠ wAnd; decide) (.ls (by show fixed [[41]] ≠ wOr; decide))
theorem acc_or {A B : List Sy} (h1 : AccE A) (h2 : AccB B) : AccE (A ++ wOr :: B) := fun r b r2 n z => by
  rw [List.append_assoc]
  refine h1 _ b r2 (by show fixed [wOr] ≠ wAnd; decide) ?_
  refine .lg (r1 := r) (show fixed [wOr] = wOr from by decide) ?_ z
  exact h2 r true r (.ls n)
theorem acc_and {A B : List Sy} (h1 : AccB A) (h2 : AccD B) : AccB (A ++ wAnd :: B) := fun r b r2 z => by
  rw [List.append_assoc]
  refine h1 _ b r2 ?_
  exact .lg (r1 := r) (show fixed [wAnd] = wAnd from by decide) (h2 r) z
theorem acc_not {T : List Sy} (h : AccD T) : AccD (wNot :: T) := fun r => .dn (show fixed [wNot] = wNot from by decide) (h r)
theorem acc_q {T : List Sy} (b : Bool) {x : Sy} (hx : x ∈ EL) (h : AccD T) : AccD (tQ b :: x :: [58] :: T) := fun r => by
  have e : fixed (tQ b :: x :: [58] :: (T ++ r)) = tQ b := by cases b <;> rfl
  refine .dq (r1 := T ++ r) (show fixed (tQ b :: x :: [58] :: (T ++ r)) = wSome ∨ fixed (tQ b :: x :: [58] :: (T ++ r)) = wAll from ?_) ?_ (h r)
  · rw [e]; cases b
    · exact .inr rfl
    · exact .inl rfl
  · show hdr (x :: [58] :: (T ++ r)) = _
    simp only [List.mem_cons, List.not_mem_nil, or_false] at hx
    rcases hx with rfl | rfl | rfl <;> rfl
theorem acc_at {w : Sy} {T : List Sy} (hf : ∀ r, fixed (w :: r) = w) (hm : w ∈ START) (n1 : w ≠ [40]) (n2 : w ≠ wNot) (n3 : ¬ (w = wSome ∨ w = wAll)) (h : ∀ r, atom w (T ++ r) = (true, r)) : AccD (w :: T) := fun r => by
  have e := hf (T ++ r)
  refine .ds (by show fixed (w :: (T ++ r)) ≠ _; rw [e]; exact n2) (by show ¬ (fixed (w :: (T ++ r)) = _ ∨ fixed (w :: (T ++ r)) = _); rw [e]; exact n3) ?_
  refine .sa (by show fixed (w :: (T ++ r)) ∈ _; rw [e]; exact hm) (by show fixed (w :: (T ++ r)) ≠ _; rw [e]; exact n1) ?_
  show atom (fixed (w :: (T ++ r))) (T ++ r) = _
  rw [e]
  exact h r
end L05
set_option Elab.async false
set_option linter.all false
set_option maxRecDepth 100000
set_option maxHeartbeats 1000000
set_option autoImplicit false
namespace L05
open GH PySem
@[irreducible] noncomputable def midS (Γ : Gam) : Stm := (sIf (dB (dBin vEq (dVar 4) (dC (.str [116, 114, 117, 101])))) (sSeq (sExpr (dCall (Γ 10) (dCons (dVar 0) (dCons (dVar 1) (dCons (dVar 4) dNil)))))
    sNext) (sSeq (sIf (dB (dBin vIn (dVar 4) (dLst (dCons (dC (.str [108, 97, 98, 101, 108])) (dCons (dC (.str [99, 104, 105, 108, 100])) dNil))))) (sSeq (sAsg (dFn vList (dCut (dVar 2) (oSome (dC (.int 2))) oNone)) (gName 7))
    (sSeq (sExpr (dCall (Γ 11) (dCons (dVar 0) (dCons (dVar 1) (dCons (dBin vAdd (dBin vAdd (dLst (dCons (dVar 4) (dCons (dFn vStr (dBin vIx (dVar 2) (dC (.int 1)))) (dCons (dC (.str [40])) (dCons (dBin vIx (dVar 7) (dC (.int 0))) dNil))))) (dBin vMul (dLst (dCons (dC (.str [44])) (dCons (dBin vIx (dVar 7) (dNeg (dC (.int 1)))) dNil))) (dBin vSub (dLen (dVar 7)) (dC (.int 1))))) (dLst (dCons (dC (.str [41])) dNil))) dNil)))))
    sNext)) (sSeq (sIf (dB (dBin vEq (dVar 5) (dC (.int 3)))) (sSeq (sExpr (dCall (Γ 11) (dCons (dVar 0) (dCons (dVar 1) (dCons (dBin vAdd (dBin vAdd (dLst (dCons (dVar 4) (dCons (dC (.str [40])) (dCons (dBin vIx (dVar 2) (dC (.int 1))) dNil)))) (dBin vMul (dLst (dCons (dC (.str [44])) (dCons (dBin vIx (dVar 2) (dNeg (dC (.int 1)))) dNil))) (dBin vSub (dLen (dVar 2)) (dC (.int 2))))) (dLst (dCons (dC (.str [41])) dNil))) dNil)))))
    sNext) (sSeq (sIf (dB (dBin vEq (dVar 4) (dC (.str [110, 111, 116])))) (sSeq (sExpr (dCall (Γ 10) (dCons (dVar 0) (dCons (dVar 1) (dCons (dVar 4) dNil)))))
    (sSeq (sExpr (dCall (Γ 12) (dCons (dVar 0) (dCons (dVar 1) (dCons (dBin vIx (dVar 2) (dC (.int 1))) (dCons (dC (.int 2)) dNil))))))
    sNext)) (sSeq (sIf (dB (dBin vLt (dVar 5) (dC (.int 2)))) (sSeq (sExpr (dCall (Γ 12) (dCons (dVar 0) (dCons (dVar 1) (dCons (dBin vIx (dVar 2) (dC (.int 1))) (dCons (dVar 5) dNil))))))
    (sSeq (sExpr (dCall (Γ 10) (dCons (dVar 0) (dCons (dVar 1) (dCons (dVar 4) dNil)))))
    (sSeq (sExpr (dCall (Γ 12) (dCons (dVar 0) (dCons (dVar 1) (dCons (dBin vIx (dVar 2) (dC (.int 2))) (dCons (dBin vAdd (dVar 5) (dC (.int 1))) dNil))))))
    sNext))) (sSeq (sExpr (dCall (Γ 11) (dCons (dVar 0) (dCons (dVar 1) (dCons (dLst (dCons (dIf (dB (dBin vIn (dVar 4) (dLst (dCons (dC (.str [115, 111, 109, 101])) (dCons (dC (.str [115, 111, 109, 101, 115, 101, 116])) dNil))))) (dC (.str [115, 111, 109, 101])) (dC (.str [97, 108, 108]))) (dCons (dBin vIx (dVar 2) (dC (.int 1))) (dCons (dC (.str [58])) dNil)))) dNil)))))
    (sSeq (sExpr (dCall (Γ 12) (dCons (dVar 0) (dCons (dVar 1) (dCons (dBin vIx (dVar 2) (dC (.int 2))) (dCons (dC (.int 2)) dNil))))))
    sNext)))
    sNext))
    sNext))
    sNext))
    sNext))
def rkD : Ob := .dic [(.str wOr, .int 0), (.str wAnd, .int 1)]
abbrev W8 : List Sy := [wLabel, wChild, wBelow, wSame, wTop, wIn, wInside, wTrue]
def rkw (w : Sy) : Int := if w = wOr then 0 else if w = wAnd then 1 else if w ∈ W8 then 3 else 2
theorem wds_ok : ∀ w ∈ WDS, okV (.str w) = true := by decide +kernel
theorem rank_a {l : GH.Loc} {H : Hv} {w : Sy} (hl : l[4]? = some (some (.str w))) (hw : w ∈ WDS) : (dGet2 (dDisp (((dC (.str [111, 114])), (dC (.int 0))) :: (((dC (.str [97, 110, 100])), (dC (.int 1))) :: []))) (dVar 4) (dIf (dB (dBin vIn (dVar 4) (dLst (dCons (dC (.str [108, 97, 98, 101, 108])) (dCons (dC (.str [99, 104, 105, 108, 100])) (dCons (dC (.str [98, 101, 108, 111, 119])) (dCons (dC (.str [115, 97, 109, 101])) (dCons (dC (.str [116, 111, 112])) (dCons (dC (.str [105, 110])) (dCons (dC (.str [105, 110, 115, 105, 100, 101])) (dCons (dC (.str [116, 114, 117, 101])) dNil))))))))))) (dC (.int 3)) (dC (.int 2)))) l H = .ok (.int (rkw w)) (H ++ [rkD]) := by
  have e1 : dDisp (((dC (.str [111, 114])), (dC (.int 0))) :: (((dC (.str [97, 110, 100])), (dC (.int 1))) :: [])) l H = .ok (.ref H.length) (H ++ [rkD]) := rfl
  have e2 : dB (dBin vIn (dVar 4) (dLst (dCons (dC (.str [108, 97, 98, 101, 108])) (dCons (dC (.str [99, 104, 105, 108, 100])) (dCons (dC (.str [98, 101, 108, 111, 119])) (dCons (dC (.str [115, 97, 109, 101])) (dCons (dC (.str [116, 111, 112])) (dCons (dC (.str [105, 110])) (dCons (dC (.str [105, 110, 115, 105, 100, 101])) (dCons (dC (.str [116, 114, 117, 101])) dNil)))))))))) l (H ++ [rkD]) = .ok (decide (w ∈ W8)) (H ++ [rkD]) :=
    inLd (dd := dVar 4) W8 (by simp only [dVar, hl]) (by simp) (wds_ok w hw) (by decide +kernel) rfl
  have e3 : dicOf (H ++ [rkD]) (.ref H.length) = some [(.str wOr, .int 0), (.str wAnd, .int 1)] := by simp [dicOf, rkD]
  have e4 : isDic (H ++ [rkD]) (.ref H.length) = true := by unfold isDic; rw [e3]; rfl
  have e5 : dVar 4 l (H ++ [rkD]) = .ok (.str w) (H ++ [rkD]) := by simp only [dVar, hl]
  unfold dGet2
  rw [e1]
  simp only [Res.bind_ok, e4, if_true, e5, e_dif, e2]
  have e6 : (if decide (w ∈ W8) = true then dC (.int 3) else dC (.int 2)) l (H ++ [rkD]) = .ok (.int (if w ∈ W8 then 3 else 2)) (H ++ [rkD]) := by
    by_cases h : w ∈ W8 <;> simp [h]
  rw [show (if decide (w ∈ W8) = true then dC (.int 3) l (H ++ [rkD]) else dC (.int 2) l (H ++ [rkD])) = .ok (.int (if w ∈ W8 then 3 else 2)) (H ++ [rkD]) by by_cases h : w ∈ W8 <;> simp [h]]
  simp only [Res.bind_ok, e3, keyOf]
  congr 1
  unfold rkw
  simp only [WDS, List.mem_cons, List.not_mem_nil, or_false] at hw
  rcases hw with rfl | rfl | rfl | rfl | rfl | rfl | rfl | rfl | rfl | rfl | rfl | rfl | rfl <;> rfl
def Fm.word : Fm → Sy
  | .lab _ _ => wLabel
  | .chi _ _ _ => wChild
  | .at w _ => w
  | .not _ => wNot
  | .bin b _ _ => tBin b
  | .q b _ _ => tQ b
def Fm.rest : Fm → List Val
  | .lab a x => [.str a, .str x]
  | .chi i x y => [.int i, .str x, .str y]
  | .at _ ns => ns.map .str
  | .not f => [f.val]
  | .bin _ f g => [f.val, g.val]
  | .q _ x f => [.str x, f.val]
theorem Fm.val_eq (f : Fm) : f.val = .tup (.str f.word :: f.rest) := by cases f <;> rfl
theorem At.wds {w : Sy} {ns : List Sy} (h : At w ns) : w ∈ W8 ∧ w ≠ wLabel ∧ w ≠ wChild := by cases h <;> decide
theorem Fm.wds {f : Fm} (h : f.good) : f.word ∈ WDS := by
  cases f with
  | «at» w ns => exact (by decide : ∀ w ∈ W8, w ∈ WDS) w (At.wds h).1
  | bin b f g => cases b
                 · exact (by decide : wOr ∈ WDS)
                 · exact (by decide : wAnd ∈ WDS)
  | q b x f => cases b
               · exact (by decide : wAll ∈ WDS)
               · exact (by decide : wSome ∈ WDS)
  | lab a x => exact (by decide : wLabel ∈ WDS)
  | chi i x y => exact (by decide : wChild ∈ WDS)
  | not f => exact (by decide : wNot ∈ WDS)
def AccN (n : Int) (T : List Sy) : Prop := if n = 0 then AccE T else if n = 1 then AccB T else AccD T
theorem AccN.mono {n m : Int} {T : List Sy} (h : AccN n T) (hm : m ≤ n) (h0 : 0 ≤ m) : AccN m T := by
  unfold AccN at *
  by_cases n0 : n = 0
  · have : m = 0 := by omega
    rw [if_pos n0] at h
    rwa [if_pos this]
  · rw [if_neg n0] at h
    by_cases n1 : n = 1
    · rw [if_pos n1] at h
      by_cases m0 : m = 0
      · rw [if_pos m0]; exact h.e
      · rw [if_neg m0, if_pos (by omega)]; exact h
    · rw [if_neg n1] at h
      by_cases m0 : m = 0
      · rw [if_pos m0]; exact h.b.e
      · rw [if_neg m0]
        by_cases m1 : m = 1
        · rw [if_pos m1]; exact h.b
        · rwa [if_neg m1]
theorem AccN.d {n : Int} {T : List Sy} (h : AccD T) (n0 : 0 ≤ n) : AccN n T := AccN.mono (n := n + 2) (by unfold AccN; rw [if_neg (by omega), if_neg (by omega)]; exact h) (by omega) n0
def WW : Nat → Nat
  | 0 => 8
  | d + 1 => 4 + 2 * WW d
def NN : Nat → Nat
  | 0 => 10
  | d + 1 => 2 * NN d + 5
theorem WW_mono {a b : Nat} (h : a ≤ b) : WW a ≤ WW b := by
  induction h with
  | refl => exact Nat.le_refl _
  | step h ih => simp only [WW]; omega
theorem NN_mono {a b : Nat} (h : a ≤ b) : NN a ≤ NN b := by
  induction h with
  | refl => exact Nat.le_refl _
  | step h ih => simp only [NN]; omega
def Lst (T : List Sy) : Prop := ∃ T0 x, T = T0 ++ [x] ∧ (x = [41] ∨ x = wTrue)
theorem Lst.app {A B : List Sy} (h : Lst B) : Lst (A ++ B) := by
  obtain ⟨T, x, rfl, hx⟩ := h
  exact ⟨A ++ T, x, by simp, hx⟩
theorem Lst.cons {a : Sy} {B : List Sy} (h : Lst B) : Lst (a :: B) := Lst.app (A := [a]) h
end L05
set_option Elab.async false
set_option linter.all false
set_option maxRecDepth 100000
set_option maxHeartbeats 1000000
set_option autoImplicit false
namespace L05
open GH PySem
section
variable {t : DenG Bool} {a b : Stm} {l : GH.Loc} {h h1 : Hv} {Q : Post} {c : Bool}
theorem sif_ (e : t l h = .ok c h1) (z1 : c = true → sok (a l h1) Q) (z2 : c = false → sok (b l h1) Q) : sok (sIf t a b l h) Q := by
  rw [e_if, e]
  cases c with
  | true => simpa using z1 rfl
  | false => simpa using z2 rfl
theorem sif_t (e : t l h = .ok true h1) (z1 : sok (a l h1) Q) : sok (sIf t a b l h) Q := sif_ e (fun _ => z1) (fun z => by cases z)
theorem sif_f (e : t l h = .ok false h1) (z1 : sok (b l h1) Q) : sok (sIf t a b l h) Q := sif_ e (fun z => by cases z) (fun _ => z1)
/-- a statement and nothing behind it -/
theorem sone (z : sok (a l h) Q) : sok (sSeq a sNext l h) Q := by
  rw [e_seq, sok_then]
  exact sok_imp z (fun _ _ z => z) (fun _ _ z => z) (fun _ _ z => z) (fun _ _ z => z)
theorem sexpr {d : Den} {rest : Stm} (z : ok (d l h) fun _ h1 => sok (rest l h1) Q) : sok (sSeq (sExpr d) rest l h) Q := by
  rw [e_seq, sok_then, e_expr, sok_to]
  exact z
end
theorem mul0 (l : List Val) (h : Hv) : vMul (.lst l) (.int 0) h = .ok (.lst []) h := by simp [vMul, lineN]
theorem mul1 (a b : Val) (h : Hv) : vMul (.lst [a, b]) (.int 1) h = .ok (.lst [a, b]) h := by simp [vMul, lineN]
theorem str0 (h : Hv) : vStr (.int 0) h = .ok (.str [48]) h := by
  simp only [vStr, vStrI]
  rw [if_pos (by decide)]
  rfl
theorem str1 (h : Hv) : vStr (.int 1) h = .ok (.str [49]) h := by
  simp only [vStr, vStrI]
  rw [if_pos (by decide)]
  rfl
theorem gsE : ∀ x ∈ EL, Gs x := fun x hx => gs_of ((by decide +kernel : ∀ x ∈ EL, gsB x = true) x hx)
theorem gsT : ∀ x ∈ ST, Gs x := fun x hx => gs_of ((by decide +kernel : ∀ x ∈ ST, gsB x = true) x hx)
theorem gsW : ∀ x ∈ WDS, Gs x := fun x hx => gs_of ((by decide +kernel : ∀ x ∈ WDS, gsB x = true) x hx)
theorem gs40 : Gs [40] := gs_of (by decide +kernel)
theorem gs41 : Gs [41] := gs_of (by decide +kernel)
theorem gs44 : Gs [44] := gs_of (by decide +kernel)
theorem gs58 : Gs [58] := gs_of (by decide +kernel)
theorem wt_el {x : Sy} (h : x ∈ EL) : wt1 x = 0 := (by decide : ∀ x ∈ EL, wt1 x = 0) x h
theorem wt_st {x : Sy} (h : x ∈ ST) : wt1 x = 0 := (by decide : ∀ x ∈ ST, wt1 x = 0) x h
def lo (f : Fm) (a b : Val) (x : Option Val) : GH.Loc := [some (.ref 0), some (.ref 1), some f.val, some a, some (.str f.word), some (.int (rkw f.word)), some b, x]
def MK (f : Fm) (u : List Nat) (a b : Val) (Q : Post) : Prop := ∀ x7 u' o' g' T, AccN (rkw f.word) T → wt T + 4 ≤ WW f.ht → T.length + 2 ≤ NN f.ht → Lst T → Pt u T u' → TapeOb o' → Q.nx (lo f a b x7) (o' :: outd u' :: g')
section
variable {k : Nat} {o : Ob} {g : Hv} {u : List Nat} {a b : Val} {Q : Post} {x7 : Option Val}
theorem c_w {f : Fm} {v : Sy} {H : Hv} : dB (dBin vEq (dVar 4) (dC (.str v))) (lo f a b x7) H = .ok (decide (f.word = v)) H := eq_w rfl
theorem c_lc {f : Fm} (hf : f.good) {H : Hv} : dB (dBin vIn (dVar 4) (dLst (dCons (dC (.str [108, 97, 98, 101, 108])) (dCons (dC (.str [99, 104, 105, 108, 100])) dNil)))) (lo f a b x7) H = .ok (decide (f.word ∈ [wLabel, wChild])) H :=
  inLd (dd := dVar 4) [wLabel, wChild] rfl (by simp) (wds_ok _ (Fm.wds hf)) (by decide +kernel) rfl
theorem c_r3 {f : Fm} {H : Hv} : dB (dBin vEq (dVar 5) (dC (.int 3))) (lo f a b x7) H = .ok (decide (rkw f.word = 3)) H := by
  simp [lo, dVar]
theorem c_r2 {f : Fm} {H : Hv} : dB (dBin vLt (dVar 5) (dC (.int 2))) (lo f a b x7) H = .ok (decide (rkw f.word < 2)) H := by
  simp [lo, dVar]
theorem acc_tr : AccD [wTrue] := acc_at (T := []) (fun r => rfl) (by decide) (by decide) (by decide) (by decide) fun r => rfl
theorem acc_1 {x : Sy} (hx : x ∈ EL) : AccD [wTop, [40], x, [41]] := acc_at (T := [[40], x, [41]]) (fun r => rfl) (by decide) (by decide) (by decide) (by decide) fun r => by
  simp only [List.mem_cons, List.not_mem_nil, or_false] at hx
  rcases hx with rfl | rfl | rfl <;> rfl
theorem acc_2 {w x y : Sy} (h : At w [x, y]) : AccD [w, [40], x, [44], y, [41]] := by
  have e3 : ∀ {x : Sy}, x ∈ EL → x = [120] ∨ x = [121] ∨ x = [122] := fun h => by simpa using h
  have e1 : ∀ {x : Sy}, x ∈ ST → x = [88] := fun h => by simpa using h
  cases h with
  | same hx hy => exact acc_at (T := [[40], x, [44], y, [41]]) (fun r => rfl) (by decide) (by decide) (by decide) (by decide) fun r => by rcases e3 hx with rfl | rfl | rfl <;> rcases e3 hy with rfl | rfl | rfl <;> rfl
  | below hx hy => exact acc_at (T := [[40], x, [44], y, [41]]) (fun r => rfl) (by decide) (by decide) (by decide) (by decide) fun r => by rcases e3 hx with rfl | rfl | rfl <;> rcases e3 hy with rfl | rfl | rfl <;> rfl
  | inn hx hy => exact acc_at (T := [[40], x, [44], y, [41]]) (fun r => rfl) (by decide) (by decide) (by decide) (by decide) fun r => by rcases e3 hx with rfl | rfl | rfl <;> rw [e1 hy] <;> rfl
  | ins hx hy => exact acc_at (T := [[40], x, [44], y, [41]]) (fun r => rfl) (by decide) (by decide) (by decide) (by decide) fun r => by rw [e1 hx, e1 hy]; rfl
theorem acc_lab {l x : Sy} (hl : l = [97] ∨ l = [98]) (hx : x ∈ EL) : AccD [wLabel, l, [40], x, [41]] := acc_at (T := [l, [40], x, [41]]) (fun r => rfl) (by decide) (by decide) (by decide) (by decide) fun r => by
  simp only [List.mem_cons, List.not_mem_nil, or_false] at hx
  rcases hl with rfl | rfl <;> rcases hx with rfl | rfl | rfl <;> rfl
theorem acc_chi {l x y : Sy} (hl : l = [48] ∨ l = [49]) (hx : x ∈ EL) (hy : y ∈ EL) : AccD [wChild, l, [40], x, [44], y, [41]] := acc_at (T := [l, [40], x, [44], y, [41]]) (fun r => rfl) (by decide) (by decide) (by decide) (by decide) fun r => by
  simp only [List.mem_cons, List.not_mem_nil, or_false] at hx hy
  rcases hl with rfl | rfl <;> rcases hx with rfl | rfl | rfl <;> rcases hy with rfl | rfl | rfl <;> rfl
theorem At.two {w x y : Sy} (h : At w [x, y]) : Gs x ∧ Gs y ∧ wt1 x = 0 ∧ wt1 y = 0 := by
  cases h with
  | same hx hy => exact ⟨gsE _ hx, gsE _ hy, wt_el hx, wt_el hy⟩
  | below hx hy => exact ⟨gsE _ hx, gsE _ hy, wt_el hx, wt_el hy⟩
  | inn hx hy => exact ⟨gsE _ hx, gsT _ hy, wt_el hx, wt_st hy⟩
  | ins hx hy => exact ⟨gsT _ hx, gsT _ hy, wt_st hx, wt_st hy⟩
theorem At.shape {w : Sy} {ns : List Sy} (h : At w ns) : (w = wTrue ∧ ns = []) ∨ (∃ x ∈ EL, w = wTop ∧ ns = [x]) ∨ ∃ x y, ns = [x, y] := by
  cases h with
  | tr => exact .inl ⟨rfl, rfl⟩
  | top hx => exact .inr (.inl ⟨_, hx, rfl, rfl⟩)
  | same hx hy => exact .inr (.inr ⟨_, _, rfl⟩)
  | below hx hy => exact .inr (.inr ⟨_, _, rfl⟩)
  | inn hx hy => exact .inr (.inr ⟨_, _, rfl⟩)
  | ins hx hy => exact .inr (.inr ⟨_, _, rfl⟩)
theorem wt_w8 : ∀ w ∈ W8, wt1 w = 0 ∧ rkw w = 3 := by decide
theorem mid_r3 {f : Fm} (hf : f.good) (w8 : f.word ∈ W8) (n0 : f.word ≠ wTrue) (n1 : f.word ≠ wLabel) (n2 : f.word ≠ wChild) (hh : f.ht = 0) (L : List Sy) (hL : ∀ s ∈ L, Gs s) (hl : L.length ≤ 8) (hA : AccD L) (hw : wt L ≤ 4) (hls : Lst L)
    (e : (dBin vAdd (dBin vAdd (dLst (dCons (dVar 4) (dCons (dC (.str [40])) (dCons (dBin vIx (dVar 2) (dC (.int 1))) dNil)))) (dBin vMul (dLst (dCons (dC (.str [44])) (dCons (dBin vIx (dVar 2) (dNeg (dC (.int 1)))) dNil))) (dBin vSub (dLen (dVar 2)) (dC (.int 2))))) (dLst (dCons (dC (.str [41])) dNil))) (lo f a b x7) (o :: outd u :: g) = .ok (.lst (L.map .str)) (o :: outd u :: g))
    (ho : TapeOb o) (hu : u.length ≤ 40000) (kk : MK f u a b Q) : sok (midS (lev D (k + 3)) (lo f a b x7) (o :: outd u :: g)) Q := by
  have rr := (wt_w8 f.word w8).2
  unfold midS
  refine sif_f (c_w.trans (by rw [decide_eq_false n0])) (sone ?_)
  refine sif_f ((c_lc hf).trans (by rw [decide_eq_false (by simpa using ⟨n1, n2⟩)])) (sone ?_)
  refine sif_t (c_r3.trans (by rw [decide_eq_true rr])) (sexpr ?_)
  rw [e_call, e_cons]
  rw [show dVar 0 (lo f a b x7) (o :: outd u :: g) = .ok (.ref 0) (o :: outd u :: g) from rfl]
  simp only [Res.bind_ok]
  rw [e_cons, show dVar 1 (lo f a b x7) (o :: outd u :: g) = .ok (.ref 1) (o :: outd u :: g) from rfl]
  simp only [Res.bind_ok]
  rw [e_cons, e]
  refine putall_sp ho (by omega) hL fun u' o' hp ho' => ?_
  exact kk x7 u' o' g L (AccN.d hA (by rw [rr]; decide)) (by rw [hh]; simp only [WW]; omega) (by rw [hh]; simp only [NN]; omega) hls hp ho'
theorem mid_at2 {w x y : Sy} (hA : At w [x, y]) (ho : TapeOb o) (hu : u.length ≤ 40000) (kk : MK (.at w [x, y]) u a b Q) : sok (midS (lev D (k + 3)) (lo (.at w [x, y]) a b x7) (o :: outd u :: g)) Q := by
  have hs := hA.wds
  have tw := hA.two
  have gw : Gs w := gsW _ ((by decide : ∀ w ∈ W8, w ∈ WDS) w hs.1)
  have nt : w ≠ wTrue := by rintro rfl; cases hA
  refine mid_r3 (f := .at w [x, y]) hA hs.1 nt hs.2.1 hs.2.2 rfl [w, [40], x, [44], y, [41]] ?_ (by simp) (acc_2 hA) ?_ ⟨[w, [40], x, [44], y], [41], rfl, .inl rfl⟩ ?_ ho hu kk
  · intro s hs
    simp only [List.mem_cons, List.not_mem_nil, or_false] at hs
    rcases hs with rfl | rfl | rfl | rfl | rfl | rfl
    · exact gw
    · exact gs40
    · exact tw.1
    · exact gs44
    · exact tw.2.1
    · exact gs41
  · simp only [wt, (wt_w8 w hs.1).1, tw.2.2.1, tw.2.2.2]; decide
  · simp [lo, dVar, Fm.val, Fm.word, mkL_ok, mul1, add_lst]
theorem mid_at1 {x : Sy} (hx : x ∈ EL) (ho : TapeOb o) (hu : u.length ≤ 40000) (kk : MK (.at wTop [x]) u a b Q) : sok (midS (lev D (k + 3)) (lo (.at wTop [x]) a b x7) (o :: outd u :: g)) Q := by
  have h1 : ∀ s ∈ [wTop, [40], x, [41]], Gs s := by
    intro s hs
    simp only [List.mem_cons, List.not_mem_nil, or_false] at hs
    rcases hs with rfl | rfl | rfl | rfl
    · exact gsW _ (by decide)
    · exact gs40
    · exact gsE _ hx
    · exact gs41
  have h2 : wt [wTop, [40], x, [41]] ≤ 4 := by simp only [wt, wt_el hx]; decide
  have m2 : vIx (.tup [.str wTop, .str x]) (.int (-1)) (o :: outd u :: g) = .ok (.str x) (o :: outd u :: g) := vIx_tup rfl
  have h3 : (dBin vAdd (dBin vAdd (dLst (dCons (dVar 4) (dCons (dC (.str [40])) (dCons (dBin vIx (dVar 2) (dC (.int 1))) dNil)))) (dBin vMul (dLst (dCons (dC (.str [44])) (dCons (dBin vIx (dVar 2) (dNeg (dC (.int 1)))) dNil))) (dBin vSub (dLen (dVar 2)) (dC (.int 2))))) (dLst (dCons (dC (.str [41])) dNil))) (lo (.at wTop [x]) a b x7) (o :: outd u :: g) = .ok (.lst ([wTop, [40], x, [41]].map .str)) (o :: outd u :: g) := by
    simp [lo, dVar, Fm.val, Fm.word, mkL_ok, m2, mul0, add_lst]
  have h := @mid_r3 k o g u a b Q x7 (.at wTop [x]) (At.top hx) (by show wTop ∈ W8; decide) (by show wTop ≠ wTrue; decide) (by show wTop ≠ wLabel; decide) (by show wTop ≠ wChild; decide) rfl [wTop, [40], x, [41]] h1 (by simp) (acc_1 hx) h2 ⟨[wTop, [40], x], [41], rfl, .inl rfl⟩ h3 ho hu kk
  exact h
theorem mid_tr (ho : TapeOb o) (hu : u.length ≤ 40000) (kk : MK (.at wTrue []) u a b Q) : sok (midS (lev D (k + 3)) (lo (.at wTrue []) a b x7) (o :: outd u :: g)) Q := by
  unfold midS
  refine sif_t c_w (sexpr ?_)
  simp only [e_call, e_cons, lo, dVar, List.getElem?_cons_succ, List.getElem?_cons_zero, Res.bind_ok, e_nil]
  refine put_sp ho (by omega) (gsW _ (by decide)) fun u' o' hp ho' => ?_
  exact kk x7 u' o' g [wTrue] (AccN.d acc_tr (by decide)) (by decide) (by decide) ⟨[], wTrue, rfl, .inr rfl⟩ hp ho'
theorem mid_at {w : Sy} {ns : List Sy} (hA : At w ns) (ho : TapeOb o) (hu : u.length ≤ 40000) (kk : MK (.at w ns) u a b Q) : sok (midS (lev D (k + 3)) (lo (.at w ns) a b x7) (o :: outd u :: g)) Q := by
  cases hA with
  | tr => have h := @mid_tr k o g u a b Q x7 ho hu kk; exact h
  | top hx => have h := @mid_at1 k o g u a b Q x7 _ hx ho hu kk; exact h
  | same hx hy => have h := @mid_at2 k o g u a b Q x7 _ _ _ (.same hx hy) ho hu kk; exact h
  | below hx hy => have h := @mid_at2 k o g u a b Q x7 _ _ _ (.below hx hy) ho hu kk; exact h
  | inn hx hy => have h := @mid_at2 k o g u a b Q x7 _ _ _ (.inn hx hy) ho hu kk; exact h
  | ins hx hy => have h := @mid_at2 k o g u a b Q x7 _ _ _ (.ins hx hy) ho hu kk; exact h
/-- label and child -/
theorem mid_lc {f : Fm} (hf : f.good) {pre : Val} {p : Sy} {nn : List Sy} (hlc : f.word ∈ [wLabel, wChild]) (hv : f.val = .tup (.str f.word :: pre :: nn.map .str)) (hp : ∀ H, vStr pre H = .ok (.str p) H) (gp : Gs p) (wp : wt1 p = 0) (hh : f.ht = 0)
    {x : Sy} (hx : x ∈ EL) (hn : nn = [x] ∧ AccD [f.word, p, [40], x, [41]] ∨ ∃ y ∈ EL, nn = [x, y] ∧ AccD [f.word, p, [40], x, [44], y, [41]])
    (ho : TapeOb o) (hu : u.length ≤ 40000) (kk : MK f u a b Q) : sok (midS (lev D (k + 3)) (lo f a b x7) (o :: outd u :: g)) Q := by
  have w8 : f.word ∈ W8 := (by decide : ∀ w ∈ [wLabel, wChild], w ∈ W8) _ hlc
  obtain ⟨ww, rr⟩ := wt_w8 f.word w8
  have gw : Gs f.word := gsW _ (Fm.wds hf)
  have nt : f.word ≠ wTrue := (by decide : ∀ w ∈ [wLabel, wChild], w ≠ wTrue) _ hlc
  unfold midS
  refine sif_f (c_w.trans (by rw [decide_eq_false nt])) (sone ?_)
  refine sif_t ((c_lc hf).trans (by rw [decide_eq_true hlc])) ?_
  refine asg_ (v := .lst (nn.map .str)) (h1 := o :: outd u :: g) ?_ ?_
  · have e : cut (Val.str f.word :: pre :: nn.map Val.str) (some 2) none = nn.map .str := cut_drop (Val.str f.word :: pre :: nn.map Val.str) 2
    simp only [e_fn, e_cut, lo, dVar, List.getElem?_cons_succ, List.getElem?_cons_zero, Res.bind_ok, e_osome, e_c, e_onone, hv, vCut, e]
    rfl
  refine sexpr ?_
  have el : (lo f a b x7).set 7 (some (.lst (nn.map .str))) = lo f a b (some (.lst (nn.map .str))) := rfl
  rw [el]
  have key : ∀ (L : List Sy), (∀ s ∈ L, Gs s) → L.length ≤ 8 → AccD L → wt L ≤ 4 → Lst L → ok (lev D (k + 3) 11 [.ref 0, .ref 1, .lst (L.map .str)] (o :: outd u :: g)) fun _ h1 => sok (sNext (lo f a b (some (.lst (nn.map .str)))) h1) Q := fun L hL hl hA hw hls => by
    refine putall_sp ho (by omega) hL fun u' o' hp ho' => ?_
    exact kk _ u' o' g L (AccN.d hA (by rw [rr]; decide)) (by rw [hh]; simp only [WW]; omega) (by rw [hh]; simp only [NN]; omega) hls hp ho'
  have e1 : vIx f.val (.int 1) (o :: outd u :: g) = .ok pre (o :: outd u :: g) := by rw [hv]; rfl
  rcases hn with ⟨rfl, hA⟩ | ⟨y, hy, rfl, hA⟩
  · have m1 : vIx (.lst [.str x]) (.int (-1)) (o :: outd u :: g) = .ok (.str x) (o :: outd u :: g) := vIx_lst rfl
    have m0 : vIx (.lst [.str x]) (.int 0) (o :: outd u :: g) = .ok (.str x) (o :: outd u :: g) := vIx_lst rfl
    have e : (dBin vAdd (dBin vAdd (dLst (dCons (dVar 4) (dCons (dFn vStr (dBin vIx (dVar 2) (dC (.int 1)))) (dCons (dC (.str [40])) (dCons (dBin vIx (dVar 7) (dC (.int 0))) dNil))))) (dBin vMul (dLst (dCons (dC (.str [44])) (dCons (dBin vIx (dVar 7) (dNeg (dC (.int 1)))) dNil))) (dBin vSub (dLen (dVar 7)) (dC (.int 1))))) (dLst (dCons (dC (.str [41])) dNil))) (lo f a b (some (.lst ([x].map .str)))) (o :: outd u :: g)
        = .ok (.lst ([f.word, p, [40], x, [41]].map .str)) (o :: outd u :: g) := by
      simp [lo, dVar, mkL_ok, e1, hp, m1, m0, mul0, add_lst]
    rw [e_call, e_cons]
    rw [show dVar 0 (lo f a b (some (.lst ([x].map .str)))) (o :: outd u :: g) = .ok (.ref 0) (o :: outd u :: g) from rfl]
    simp only [Res.bind_ok]
    rw [e_cons, show dVar 1 (lo f a b (some (.lst ([x].map .str)))) (o :: outd u :: g) = .ok (.ref 1) (o :: outd u :: g) from rfl]
    simp only [Res.bind_ok]
    rw [e_cons, e]
    refine key _ ?_ (by simp) hA ?_ ⟨[f.word, p, [40], x], [41], rfl, .inl rfl⟩
    · intro s hs
      simp only [List.mem_cons, List.not_mem_nil, or_false] at hs
      rcases hs with rfl | rfl | rfl | rfl | rfl
      · exact gw
      · exact gp
      · exact gs40
      · exact gsE _ hx
      · exact gs41
    · simp only [wt, ww, wp, wt_el hx]; decide
  · have m1 : vIx (.lst [.str x, .str y]) (.int (-1)) (o :: outd u :: g) = .ok (.str y) (o :: outd u :: g) := vIx_lst rfl
    have m0 : vIx (.lst [.str x, .str y]) (.int 0) (o :: outd u :: g) = .ok (.str x) (o :: outd u :: g) := vIx_lst rfl
    have e : (dBin vAdd (dBin vAdd (dLst (dCons (dVar 4) (dCons (dFn vStr (dBin vIx (dVar 2) (dC (.int 1)))) (dCons (dC (.str [40])) (dCons (dBin vIx (dVar 7) (dC (.int 0))) dNil))))) (dBin vMul (dLst (dCons (dC (.str [44])) (dCons (dBin vIx (dVar 7) (dNeg (dC (.int 1)))) dNil))) (dBin vSub (dLen (dVar 7)) (dC (.int 1))))) (dLst (dCons (dC (.str [41])) dNil))) (lo f a b (some (.lst ([x, y].map .str)))) (o :: outd u :: g)
        = .ok (.lst ([f.word, p, [40], x, [44], y, [41]].map .str)) (o :: outd u :: g) := by
      simp [lo, dVar, mkL_ok, e1, hp, m1, m0, mul1, add_lst]
    rw [e_call, e_cons]
    rw [show dVar 0 (lo f a b (some (.lst ([x, y].map .str)))) (o :: outd u :: g) = .ok (.ref 0) (o :: outd u :: g) from rfl]
    simp only [Res.bind_ok]
    rw [e_cons, show dVar 1 (lo f a b (some (.lst ([x, y].map .str)))) (o :: outd u :: g) = .ok (.ref 1) (o :: outd u :: g) from rfl]
    simp only [Res.bind_ok]
    rw [e_cons, e]
    refine key _ ?_ (by simp) hA ?_ ⟨[f.word, p, [40], x, [44], y], [41], rfl, .inl rfl⟩
    · intro s hs
      simp only [List.mem_cons, List.not_mem_nil, or_false] at hs
      rcases hs with rfl | rfl | rfl | rfl | rfl | rfl | rfl
      · exact gw
      · exact gp
      · exact gs40
      · exact gsE _ hx
      · exact gs44
      · exact gsE _ hy
      · exact gs41
    · simp only [wt, ww, wp, wt_el hx, wt_el hy]; decide
end
end L05
set_option Elab.async false
set_option linter.all false
set_option maxRecDepth 100000
set_option maxHeartbeats 1000000
set_option autoImplicit false
namespace L05
open GH PySem
theorem mid_eq (Γ : Gam) : midS Γ = (sIf (dB (dBin vEq (dVar 4) (dC (.str [116, 114, 117, 101])))) (sSeq (sExpr (dCall (Γ 10) (dCons (dVar 0) (dCons (dVar 1) (dCons (dVar 4) dNil)))))
    sNext) (sSeq (sIf (dB (dBin vIn (dVar 4) (dLst (dCons (dC (.str [108, 97, 98, 101, 108])) (dCons (dC (.str [99, 104, 105, 108, 100])) dNil))))) (sSeq (sAsg (dFn vList (dCut (dVar 2) (oSome (dC (.int 2))) oNone)) (gName 7))
    (sSeq (sExpr (dCall (Γ 11) (dCons (dVar 0) (dCons (dVar 1) (dCons (dBin vAdd (dBin vAdd (dLst (dCons (dVar 4) (dCons (dFn vStr (dBin vIx (dVar 2) (dC (.int 1)))) (dCons (dC (.str [40])) (dCons (dBin vIx (dVar 7) (dC (.int 0))) dNil))))) (dBin vMul (dLst (dCons (dC (.str [44])) (dCons (dBin vIx (dVar 7) (dNeg (dC (.int 1)))) dNil))) (dBin vSub (dLen (dVar 7)) (dC (.int 1))))) (dLst (dCons (dC (.str [41])) dNil))) dNil)))))
    sNext)) (sSeq (sIf (dB (dBin vEq (dVar 5) (dC (.int 3)))) (sSeq (sExpr (dCall (Γ 11) (dCons (dVar 0) (dCons (dVar 1) (dCons (dBin vAdd (dBin vAdd (dLst (dCons (dVar 4) (dCons (dC (.str [40])) (dCons (dBin vIx (dVar 2) (dC (.int 1))) dNil)))) (dBin vMul (dLst (dCons (dC (.str [44])) (dCons (dBin vIx (dVar 2) (dNeg (dC (.int 1)))) dNil))) (dBin vSub (dLen (dVar 2)) (dC (.int 2))))) (dLst (dCons (dC (.str [41])) dNil))) dNil)))))
    sNext) (sSeq (sIf (dB (dBin vEq (dVar 4) (dC (.str [110, 111, 116])))) (sSeq (sExpr (dCall (Γ 10) (dCons (dVar 0) (dCons (dVar 1) (dCons (dVar 4) dNil)))))
    (sSeq (sExpr (dCall (Γ 12) (dCons (dVar 0) (dCons (dVar 1) (dCons (dBin vIx (dVar 2) (dC (.int 1))) (dCons (dC (.int 2)) dNil))))))
    sNext)) (sSeq (sIf (dB (dBin vLt (dVar 5) (dC (.int 2)))) (sSeq (sExpr (dCall (Γ 12) (dCons (dVar 0) (dCons (dVar 1) (dCons (dBin vIx (dVar 2) (dC (.int 1))) (dCons (dVar 5) dNil))))))
    (sSeq (sExpr (dCall (Γ 10) (dCons (dVar 0) (dCons (dVar 1) (dCons (dVar 4) dNil)))))
    (sSeq (sExpr (dCall (Γ 12) (dCons (dVar 0) (dCons (dVar 1) (dCons (dBin vIx (dVar 2) (dC (.int 2))) (dCons (dBin vAdd (dVar 5) (dC (.int 1))) dNil))))))
    sNext))) (sSeq (sExpr (dCall (Γ 11) (dCons (dVar 0) (dCons (dVar 1) (dCons (dLst (dCons (dIf (dB (dBin vIn (dVar 4) (dLst (dCons (dC (.str [115, 111, 109, 101])) (dCons (dC (.str [115, 111, 109, 101, 115, 101, 116])) dNil))))) (dC (.str [115, 111, 109, 101])) (dC (.str [97, 108, 108]))) (dCons (dBin vIx (dVar 2) (dC (.int 1))) (dCons (dC (.str [58])) dNil)))) dNil)))))
    (sSeq (sExpr (dCall (Γ 12) (dCons (dVar 0) (dCons (dVar 1) (dCons (dBin vIx (dVar 2) (dC (.int 2))) (dCons (dC (.int 2)) dNil))))))
    sNext)))
    sNext))
    sNext))
    sNext))
    sNext)) := by
  unfold midS
  rfl
theorem lv {K K' j : Nat} {a : List Val} {h : Hv} {P : Val → Hv → Prop} (e : K = K') (z : ok (lev D K' j a h) P) : ok (lev D K j a h) P := by subst e; exact z
theorem rkw_ge (w : Sy) : 0 ≤ rkw w := by
  unfold rkw
  split
  · omega
  · split
    · omega
    · split <;> omega
def PK (f : Fm) (u : List Nat) (least : Int) (P : Val → Hv → Prop) : Prop := ∀ u' o' g' T, AccN least T → wt T ≤ WW f.ht → T.length ≤ NN f.ht → Lst T → Pt u T u' → TapeOb o' → P .non (o' :: outd u' :: g')
theorem putf_wrap {f : Fm} (hf : f.good) {K : Nat} (hmid : ∀ {o : Ob} {g : Hv} {u : List Nat} {a b : Val} {Q : Post} {x7 : Option Val}, TapeOb o → u.length + 12 * (NN f.ht - 1) ≤ 30000 → MK f u a b Q → sok (midS (lev D (K + 3)) (lo f a b x7) (o :: outd u :: g)) Q)
    {o : Ob} {g : Hv} {u : List Nat} {least : Int} {P : Val → Hv → Prop} (hl0 : 0 ≤ least) (ho : TapeOb o) (hu : u.length + 12 * NN f.ht ≤ 30000) (kk : PK f u least P) : ok (lev D (K + 4) 12 [.ref 0, .ref 1, f.val, .int least] (o :: outd u :: g)) P := by
  show ok (runDef 8 (b__law_put_formula (lev D (K + 3))) [.ref 0, .ref 1, f.val, .int least] (o :: outd u :: g)) P
  rw [ok_run]
  unfold b__law_put_formula
  rw [← mid_eq]
  show sok (sSeq _ _ [some (.ref 0), some (.ref 1), some f.val, some (.int least), none, none, none, none] (o :: outd u :: g)) _
  refine asg_ (v := .str f.word) (h1 := o :: outd u :: g) ?_ ?_
  · simp only [e_bin, dVar, List.getElem?_cons_succ, List.getElem?_cons_zero, Res.bind_ok, e_c, Fm.val_eq, t0]
  refine asg_ (v := .int (rkw f.word)) (h1 := (o :: outd u :: g) ++ [rkD]) (rank_a rfl (Fm.wds hf)) ?_
  have eg : (o :: outd u :: g) ++ [rkD] = o :: outd u :: (g ++ [rkD]) := rfl
  rw [eg]
  generalize g ++ [rkD] = g1
  show sok (sSeq _ _ [some (.ref 0), some (.ref 1), some f.val, some (.int least), some (.str f.word), some (.int (rkw f.word)), none, none] (o :: outd u :: g1)) _
  refine asgo_ (fun v h => ∃ (b : Bool) (o' : Ob), (b = false → least ≤ rkw f.word) ∧ TapeOb o' ∧ v = .bl b ∧ h = o' :: outd u :: g1) (fun Q' hQ => ?_) ?_
  · simp only [e_orv, e_bin, dVar, List.getElem?_cons_succ, List.getElem?_cons_zero, Res.bind_ok, vLt_int, e_call, e_cons, e_c, e_nil]
    by_cases hlt : rkw f.word < least
    · rw [decide_eq_true hlt]
      exact hQ _ _ ⟨true, o, fun z => (by cases z), ho, rfl, rfl⟩
    · rw [decide_eq_false hlt]
      simp only [ok_bind]
      refine take_l ho (by omega) (by omega) fun r o' h0 h1 ho' => ?_
      simp only [vEq_int, ok_ok]
      exact hQ _ _ ⟨decide (r = 0), o', fun _ => by omega, ho', rfl, rfl⟩
  rintro v h ⟨b, o1, hb, ho1, rfl, rfl⟩
  show sok (sSeq _ _ (lo f (.int least) (.bl b) none) (o1 :: outd u :: g1)) _
  refine sok_seqo (fun l h => ∃ u1 o2, Pt u (if b then [[40]] else []) u1 ∧ TapeOb o2 ∧ l = lo f (.int least) (.bl b) none ∧ h = o2 :: outd u1 :: g1) (fun R' hR => ?_) ?_
  · cases b with
    | true =>
      refine sif_t (h1 := o1 :: outd u :: g1) rfl (sexpr ?_)
      simp only [e_call, e_cons, lo, dVar, List.getElem?_cons_succ, List.getElem?_cons_zero, Res.bind_ok, e_nil, e_c]
      refine put_sp ho1 (by omega) gs40 fun u' o' hp ho' => ?_
      exact hR _ _ ⟨u', o', hp, ho', rfl, rfl⟩
    | false =>
      refine sif_f (h1 := o1 :: outd u :: g1) rfl ?_
      exact hR _ _ ⟨u, o1, Pt.refl u, ho1, rfl, rfl⟩
  rintro l h ⟨u1, o2, hp1, ho2, rfl, rfl⟩
  have hu1 : u1.length + 12 * (NN f.ht - 1) ≤ 30000 := by
    have := hp1.len
    have : (if b then ([[40]] : List Sy) else []).length ≤ 1 := by cases b <;> simp
    have : 1 ≤ NN f.ht := by cases f.ht <;> simp only [NN] <;> omega
    omega
  refine sok_seqo (fun l h => ∃ x7 u2 o3 g3 T, AccN (rkw f.word) T ∧ wt T + 4 ≤ WW f.ht ∧ T.length + 2 ≤ NN f.ht ∧ Lst T ∧ Pt u1 T u2 ∧ TapeOb o3 ∧ l = lo f (.int least) (.bl b) x7 ∧ h = o3 :: outd u2 :: g3) (fun R' hR => ?_) ?_
  · refine hmid ho2 hu1 fun x7 u2 o3 g3 T h1 h2 h3 h4 h5 h6 => ?_
    exact hR _ _ ⟨x7, u2, o3, g3, T, h1, h2, h3, h4, h5, h6, rfl, rfl⟩
  rintro l h ⟨x7, u2, o3, g3, T, h1, h2, h3, h4, h5, h6, rfl, rfl⟩
  have hu2 : u2.length ≤ 31000 := by
    have := h5.len
    omega
  refine sone ?_
  cases b with
  | true =>
    refine sif_t (h1 := o3 :: outd u2 :: g3) rfl (sexpr ?_)
    simp only [e_call, e_cons, lo, dVar, List.getElem?_cons_succ, List.getElem?_cons_zero, Res.bind_ok, e_nil, e_c]
    refine put_sp h6 (by omega) gs41 fun u' o' hp ho' => ?_
    have hp' : Pt u ([40] :: (T ++ [[41]])) u' := by
      have := (hp1.trans h5).trans hp
      simpa using this
    have ae : AccE T := by
      have := h1.mono (rkw_ge _) (Int.le_refl 0)
      simpa [AccN] using this
    refine kk u' o' g3 _ (AccN.d (acc_par ae) hl0) ?_ ?_ ⟨[40] :: T, [41], rfl, .inl rfl⟩ hp' ho'
    · have e41 : wt [[41]] = 0 := by decide
      rw [show ([40] : Sy) :: (T ++ [[41]]) = [[40]] ++ (T ++ [[41]]) from rfl, wt_app, wt_app, e41, show wt [[40]] = 4 by decide]
      omega
    · simp only [List.length_cons, List.length_append, List.length_nil]; omega
  | false =>
    refine sif_f (h1 := o3 :: outd u2 :: g3) rfl ?_
    have hp' : Pt u T u2 := by
      have := hp1.trans h5
      simpa using this
    exact kk u2 o3 g3 T (h1.mono (hb rfl) hl0) (by omega) (by omega) h4 hp' h6
theorem dg_ok {i : Int} (h : i = 0 ∨ i = 1) : ∃ p : Sy, (p = [48] ∨ p = [49]) ∧ ∀ H, vStr (.int i) H = .ok (.str p) H := by
  rcases h with rfl | rfl
  · exact ⟨[48], .inl rfl, str0⟩
  · exact ⟨[49], .inr rfl, str1⟩
theorem putf_sp : ∀ (f : Fm), f.good → ∀ {k : Nat} {o : Ob} {g : Hv} {u : List Nat} {least : Int} {P : Val → Hv → Prop}, 0 ≤ least → TapeOb o → u.length + 12 * NN f.ht ≤ 30000 → PK f u least P →
    ok (lev D (k + f.ht + 4) 12 [.ref 0, .ref 1, f.val, .int least] (o :: outd u :: g)) P := by
  intro f
  induction f with
  | lab l x =>
    intro hf k o g u least P hl ho hu kk
    refine putf_wrap (f := .lab l x) hf (K := k + 0) (fun {o g u a b Q x7} ho hu kk => ?_) hl ho hu kk
    have hl' : Gs l ∧ wt1 l = 0 ∧ okV (.str l) = true := by
      rcases hf.1 with h | h <;> rw [h] <;> exact ⟨gs_of (by decide +kernel), by decide, by decide +kernel⟩
    have h := @mid_lc (k + 0) o g u a b Q x7 (.lab l x) hf (.str l) l [x] (by show wLabel ∈ _; decide) rfl (fun H => rfl) hl'.1 hl'.2.1 rfl x hf.2 (.inl ⟨rfl, acc_lab hf.1 hf.2⟩) ho (by simp only [Fm.ht, NN] at hu; omega) kk
    exact h
  | chi i x y =>
    intro hf k o g u least P hl ho hu kk
    refine putf_wrap (f := .chi i x y) hf (K := k + 0) (fun {o g u a b Q x7} ho hu kk => ?_) hl ho hu kk
    obtain ⟨p, hp, hs⟩ := dg_ok hf.1
    have hl' : Gs p ∧ wt1 p = 0 := by
      rcases hp with h | h <;> rw [h] <;> exact ⟨gs_of (by decide +kernel), by decide⟩
    have h := @mid_lc (k + 0) o g u a b Q x7 (.chi i x y) hf (.int i) p [x, y] (by show wChild ∈ _; decide) rfl hs hl'.1 hl'.2 rfl x hf.2.1 (.inr ⟨y, hf.2.2, rfl, acc_chi hp hf.2.1 hf.2.2⟩) ho (by simp only [Fm.ht, NN] at hu; omega) kk
    exact h
  | «at» w ns =>
    intro hf k o g u least P hl ho hu kk
    refine putf_wrap (f := .at w ns) hf (K := k + 0) (fun {o g u a b Q x7} ho hu kk => ?_) hl ho hu kk
    have h := @mid_at (k + 0) o g u a b Q x7 w ns hf ho (by simp only [Fm.ht, NN] at hu; omega) kk
    exact h
  | not f ih =>
    intro hf k o g u least P hl ho hu kk
    have hf' : f.good := hf
    refine lv (show k + (Fm.not f).ht + 4 = (k + f.ht + 1) + 4 by simp only [Fm.ht]; omega) (putf_wrap (f := .not f) hf (K := k + f.ht + 1) (fun {o g u a b Q x7} ho hu kk => ?_) hl ho hu kk)
    rw [mid_eq]
    simp only [Fm.ht, NN] at hu
    refine sif_f (c_w.trans rfl) (sone ?_)
    refine sif_f ((c_lc hf).trans rfl) (sone ?_)
    refine sif_f (c_r3.trans rfl) (sone ?_)
    refine sif_t (c_w.trans rfl) (sexpr ?_)
    simp only [e_call, e_cons, lo, dVar, List.getElem?_cons_succ, List.getElem?_cons_zero, Res.bind_ok, e_nil]
    refine put_sp ho (by omega) (gsW _ (Fm.wds (f := .not f) hf)) fun u1 o1 hp1 ho1 => sexpr ?_
    have l1 := hp1.len
    simp only [List.length_cons, List.length_nil] at l1
    simp only [e_call, e_cons, dVar, List.getElem?_cons_succ, List.getElem?_cons_zero, Res.bind_ok, e_nil, e_bin, e_c, Fm.val, t1]
    refine lv (show k + f.ht + 1 + 3 = k + f.ht + 4 by omega) (ih hf' (by omega) ho1 (by omega) fun u2 o2 g2 T a1 a2 a3 a4 a5 a6 => ?_)
    have ad : AccD T := by simpa [AccN] using a1
    refine kk x7 u2 o2 g2 (wNot :: T) (AccN.d (acc_not ad) (rkw_ge _)) ?_ ?_ a4.cons (hp1.trans a5) a6
    · rw [wt_not (.inl rfl)]
      simp only [Fm.ht, WW]
      have : 8 ≤ WW f.ht := WW_mono (a := 0) (Nat.zero_le _)
      omega
    · simp only [Fm.ht, NN, List.length_cons]; omega
  | bin c f1 f2 ih1 ih2 =>
    intro hf k o g u least P hl ho hu kk
    have g1 : f1.good := hf.1
    have g2 : f2.good := hf.2
    have m1 : f1.ht ≤ max f1.ht f2.ht := Nat.le_max_left ..
    have m2 : f2.ht ≤ max f1.ht f2.ht := Nat.le_max_right ..
    generalize hm : max f1.ht f2.ht = m at m1 m2
    have eh : (Fm.bin c f1 f2).ht = m + 1 := by simp only [Fm.ht, hm]
    refine lv (show k + (Fm.bin c f1 f2).ht + 4 = (k + m + 1) + 4 by rw [eh]; omega) (putf_wrap (f := .bin c f1 f2) hf (K := k + m + 1) (fun {o g u a b Q x7} ho hu kk => ?_) hl ho hu kk)
    rw [mid_eq]
    rw [eh] at hu
    simp only [NN] at hu
    have n1 := NN_mono m1
    have n2 := NN_mono m2
    have w1 := WW_mono m1
    have w2 := WW_mono m2
    have hr : rkw (tBin c) = if c then 1 else 0 := by cases c <;> rfl
    refine sif_f (c_w.trans (by cases c <;> rfl)) (sone ?_)
    refine sif_f ((c_lc hf).trans (by cases c <;> rfl)) (sone ?_)
    refine sif_f (c_r3.trans (by cases c <;> rfl)) (sone ?_)
    refine sif_f (c_w.trans (by cases c <;> rfl)) (sone ?_)
    refine sif_t (c_r2.trans (by cases c <;> rfl)) (sexpr ?_)
    simp only [e_call, e_cons, lo, dVar, List.getElem?_cons_succ, List.getElem?_cons_zero, Res.bind_ok, e_nil, e_bin, e_c, Fm.val, t1]
    refine lv (show k + m + 1 + 3 = (k + (m - f1.ht)) + f1.ht + 4 by omega) (ih1 g1 (rkw_ge _) ho (by omega) fun u1 o1 g1 T1 a1 a2 a3 a4 a5 a6 => sexpr ?_)
    have l1 := a5.len
    simp only [e_call, e_cons, dVar, List.getElem?_cons_succ, List.getElem?_cons_zero, Res.bind_ok, e_nil]
    refine put_sp a6 (by omega) (gsW _ (Fm.wds (f := .bin c f1 f2) hf)) fun u2 o2 hp2 ho2 => sexpr ?_
    have l2 := hp2.len
    simp only [List.length_cons, List.length_nil] at l2
    simp only [e_call, e_cons, dVar, List.getElem?_cons_succ, List.getElem?_cons_zero, Res.bind_ok, e_nil, e_bin, e_c, Fm.val, t2, vAdd_int]
    refine lv (show k + m + 1 + 3 = (k + (m - f2.ht)) + f2.ht + 4 by omega) (ih2 g2 (by have := rkw_ge (Fm.bin c f1 f2).word; omega) ho2 (by omega) fun u3 o3 g3 T2 b1 b2 b3 b4 b5 b6 => ?_)
    have acc : AccN (rkw (Fm.bin c f1 f2).word) (T1 ++ tBin c :: T2) := by
      cases c with
      | false =>
        have x1 : AccE T1 := by simpa [AccN] using (show AccN 0 T1 from a1)
        have x2 : AccB T2 := by simpa [AccN] using (show AccN 1 T2 from b1)
        have : AccN 0 (T1 ++ wOr :: T2) := by simpa [AccN] using acc_or x1 x2
        exact this
      | true =>
        have x1 : AccB T1 := by simpa [AccN] using (show AccN 1 T1 from a1)
        have x2 : AccD T2 := by simpa [AccN] using (show AccN 2 T2 from b1)
        have : AccN 1 (T1 ++ wAnd :: T2) := by simpa [AccN] using acc_and x1 x2
        exact this
    have hpt : Pt u (T1 ++ tBin c :: T2) u3 := by
      have := (a5.trans hp2).trans b5
      simpa [Fm.word] using this
    refine kk x7 u3 o3 g3 _ acc ?_ ?_ (Lst.app b4.cons) hpt b6
    · have e0 : wt1 (tBin c) = 0 := by cases c <;> decide
      rw [wt_app, eh]
      simp only [wt, e0, WW]
      omega
    · rw [eh]
      simp only [NN, List.length_append, List.length_cons]
      omega
  | q c x f ih =>
    intro hf k o g u least P hl ho hu kk
    have hx : x ∈ EL := hf.1
    have hf' : f.good := hf.2
    refine lv (show k + (Fm.q c x f).ht + 4 = (k + f.ht + 1) + 4 by simp only [Fm.ht]; omega) (putf_wrap (f := .q c x f) hf (K := k + f.ht + 1) (fun {o g u a b Q x7} ho hu kk => ?_) hl ho hu kk)
    rw [mid_eq]
    simp only [Fm.ht, NN] at hu
    have n0 : 10 ≤ NN f.ht := NN_mono (a := 0) (Nat.zero_le _)
    refine sif_f (c_w.trans (by cases c <;> rfl)) (sone ?_)
    refine sif_f ((c_lc hf).trans (by cases c <;> rfl)) (sone ?_)
    refine sif_f (c_r3.trans (by cases c <;> rfl)) (sone ?_)
    refine sif_f (c_w.trans (by cases c <;> rfl)) (sone ?_)
    refine sif_f (c_r2.trans (by cases c <;> rfl)) (sexpr ?_)
    have cw : dB (dBin vIn (dVar 4) (dLst (dCons (dC (.str [115, 111, 109, 101])) (dCons (dC (.str [115, 111, 109, 101, 115, 101, 116])) dNil)))) (lo (.q c x f) a b x7) (o :: outd u :: g) = .ok (decide (tQ c ∈ [wSome, [115, 111, 109, 101, 115, 101, 116]])) (o :: outd u :: g) :=
      inLd (dd := dVar 4) [wSome, [115, 111, 109, 101, 115, 101, 116]] rfl (by simp) (wds_ok _ (Fm.wds (f := .q c x f) hf)) (by decide +kernel) rfl
    have cv : dIf (dB (dBin vIn (dVar 4) (dLst (dCons (dC (.str [115, 111, 109, 101])) (dCons (dC (.str [115, 111, 109, 101, 115, 101, 116])) dNil))))) (dC (.str [115, 111, 109, 101])) (dC (.str [97, 108, 108])) (lo (.q c x f) a b x7) (o :: outd u :: g) = .ok (.str (tQ c)) (o :: outd u :: g) := by
      rw [e_dif, cw]
      cases c <;> rfl
    have ex : vIx (Fm.q c x f).val (.int 1) (o :: outd u :: g) = .ok (.str x) (o :: outd u :: g) := rfl
    have e3 : dLst (dCons (dIf (dB (dBin vIn (dVar 4) (dLst (dCons (dC (.str [115, 111, 109, 101])) (dCons (dC (.str [115, 111, 109, 101, 115, 101, 116])) dNil))))) (dC (.str [115, 111, 109, 101])) (dC (.str [97, 108, 108]))) (dCons (dBin vIx (dVar 2) (dC (.int 1))) (dCons (dC (.str [58])) dNil))) (lo (.q c x f) a b x7) (o :: outd u :: g) = .ok (.lst ([tQ c, x, [58]].map .str)) (o :: outd u :: g) := by
      rw [e_lst, e_cons, cv]
      simp only [Res.bind_ok, e_cons, e_bin, lo, dVar, List.getElem?_cons_succ, List.getElem?_cons_zero, e_c, ex, e_nil]
      exact mkL_ok (by simp)
    rw [e_call, e_cons]
    rw [show dVar 0 (lo (.q c x f) a b x7) (o :: outd u :: g) = .ok (.ref 0) (o :: outd u :: g) from rfl]
    simp only [Res.bind_ok]
    rw [e_cons, show dVar 1 (lo (.q c x f) a b x7) (o :: outd u :: g) = .ok (.ref 1) (o :: outd u :: g) from rfl]
    simp only [Res.bind_ok]
    rw [e_cons, e3]
    simp only [Res.bind_ok, e_nil]
    refine lv (show k + f.ht + 1 + 3 = (k + f.ht + 1) + 3 from rfl) (putall_sp ho (by simp only [List.length_cons, List.length_nil]; omega) ?_ fun u1 o1 hp1 ho1 => sexpr ?_)
    · intro s hs
      simp only [List.mem_cons, List.not_mem_nil, or_false] at hs
      rcases hs with rfl | rfl | rfl
      · exact gsW _ (Fm.wds (f := .q c x f) hf)
      · exact gsE _ hx
      · exact gs58
    have l1 := hp1.len
    simp only [List.length_cons, List.length_nil] at l1
    simp only [e_call, e_cons, lo, dVar, List.getElem?_cons_succ, List.getElem?_cons_zero, Res.bind_ok, e_nil, e_bin, e_c, Fm.val, t2]
    refine lv (show k + f.ht + 1 + 3 = k + f.ht + 4 by omega) (ih hf' (by omega) ho1 (by omega) fun u2 o2 g2 T a1 a2 a3 a4 a5 a6 => ?_)
    have ad : AccD T := by simpa [AccN] using a1
    refine kk x7 u2 o2 g2 (tQ c :: x :: [58] :: T) (AccN.d (acc_q c hx ad) (rkw_ge _)) ?_ ?_ a4.cons.cons.cons (hp1.trans a5) a6
    · have e1 : wt (tQ c :: x :: [58] :: T) = wt T + 1 := by
        rw [wt_not (by cases c; exact .inr (.inr rfl); exact .inr (.inl rfl))]
        simp only [wt, wt_el hx]
        have : wt1 [58] = 0 := by decide
        omega
      rw [e1]
      simp only [Fm.ht, WW]
      have : 8 ≤ WW f.ht := WW_mono (a := 0) (Nat.zero_le _)
      omega
    · simp only [Fm.ht, NN, List.length_cons]; omega
end L05
set_option Elab.async false
set_option linter.all false
set_option maxRecDepth 100000
set_option maxHeartbeats 1000000
set_option autoImplicit false
namespace L05
open GH PySem
/-! texts cut at their tokens -/
section
variable {t : List Nat}
theorem lx_pw : (lx 0 0 t).Pairwise (fun a b => a.fin ≤ b.2) := (lx_facts t 0 0).2
theorem lx_ne {x : Tk} (h : x ∈ lx 0 0 t) : x.2 < x.fin := fin_gt ((lx_facts t 0 0).1 x h).2.1
theorem lx_lt {i j : Nat} {x y : Tk} (hi : (lx 0 0 t)[i]? = some x) (hj : (lx 0 0 t)[j]? = some y) (h : i < j) : x.fin ≤ y.2 := by
  obtain ⟨hi', rfl⟩ := List.getElem?_eq_some_iff.mp hi
  obtain ⟨hj', rfl⟩ := List.getElem?_eq_some_iff.mp hj
  exact List.pairwise_iff_getElem.mp lx_pw i j hi' hj' h
theorem cut_fin {m : Nat} {x : Tk} (h : (lx 0 0 t)[m]? = some x) : lx 0 0 (t.take x.fin) = (lx 0 0 t).take (m + 1) := by
  have := lx_cut t 0 0 x.fin (m + 1) (Nat.zero_le _) (fun y hy => ?_) (fun y hy => ?_)
  · simpa using this
  · obtain ⟨a, ha, rfl⟩ := List.mem_take_iff_getElem.mp hy
    by_cases e : a = m
    · subst e
      have h2 : (lx 0 0 t)[a]? = some ((lx 0 0 t)[a]) := List.getElem?_eq_getElem _
      rw [h] at h2
      cases h2
      exact Nat.le_refl _
    · have h2 : (lx 0 0 t)[a]? = some ((lx 0 0 t)[a]) := List.getElem?_eq_getElem _
      have := lx_lt h2 h (by omega)
      have := lx_ne (List.mem_of_getElem? h)
      omega
  · obtain ⟨a, ha, rfl⟩ := List.mem_drop_iff_getElem.mp hy
    exact lx_lt (j := m + 1 + a) h (List.getElem?_eq_getElem (by omega)) (by omega)
theorem cut_start {G : List Tk} {x : Tk} (h : lx 0 0 t = G ++ [x]) : lx 0 0 (t.take x.2) = G := by
  have hx : (lx 0 0 t)[G.length]? = some x := by rw [h]; simp
  have := lx_cut t 0 0 x.2 G.length (Nat.zero_le _) (fun y hy => ?_) (fun y hy => ?_)
  · rw [h] at this
    simpa using this
  · obtain ⟨a, ha, rfl⟩ := List.mem_take_iff_getElem.mp hy
    exact lx_lt (List.getElem?_eq_getElem (by omega)) hx (by omega)
  · rw [h] at hy
    have : y = x := by simpa using hy
    rw [this]
    exact Nat.le_refl _
end
theorem lx_word : ∀ (l : List Nat) (p k : Nat), ∀ x ∈ lx p k l, p ≤ x.2 ∧ (l.drop (x.2 - p)).take x.1.length = x.1
  | [], p, k, x, hx => by rw [lx_nil] at hx; cases hx
  | c :: cs, p, k + 1, x, hx => by
    obtain ⟨a, b⟩ := lx_word cs (p + 1) k x hx
    refine ⟨by omega, ?_⟩
    rw [show x.2 - p = (x.2 - (p + 1)) + 1 by omega, List.drop_succ_cons]
    exact b
  | c :: cs, p, 0, x, hx => by
    have tl : ∀ k, x ∈ lx (p + 1) k cs → p ≤ x.2 ∧ ((c :: cs).drop (x.2 - p)).take x.1.length = x.1 := fun k h => by
      obtain ⟨a, b⟩ := lx_word cs (p + 1) k x h
      refine ⟨by omega, ?_⟩
      rw [show x.2 - p = (x.2 - (p + 1)) + 1 by omega, List.drop_succ_cons]
      exact b
    by_cases h : letB c = true
    · rw [lx_let h] at hx
      rcases List.mem_cons.mp hx with rfl | hx
      · refine ⟨Nat.le_refl _, ?_⟩
        simp only [Nat.sub_self, List.drop_zero, List.length_cons, List.take_succ_cons, tw_eq]
      · exact tl _ hx
    · have h : letB c = false := by simpa using h
      by_cases h2 : c = 32 ∨ c = 10
      · rw [lx_sp h h2] at hx
        exact tl _ hx
      · rw [lx_one h h2] at hx
        rcases List.mem_cons.mp hx with rfl | hx
        · refine ⟨Nat.le_refl _, ?_⟩
          simp
        · exact tl _ hx
/-! what the law asks of any text -/
section
variable {t : List Nat} (ht : t.length ≤ 100000) (ot : okV (.str t) = true)
theorem okV_take {n : Nat} (ot : okV (.str t) = true) : okV (.str (t.take n)) = true := okV_sub ot fun c hc => List.mem_of_mem_take hc
theorem wt_take {ss : List Sy} (n : Nat) : wt (ss.take n) ≤ wt ss := by
  have := wt_app (ss.take n) (ss.drop n)
  rw [List.take_append_drop] at this
  omega
theorem read_empty {b : Bool} {r : List Sy} (hk : syms t = []) (H : Run (.Q true) (syms t) b r) : b = false ∧ r = [] := by
  rw [hk] at H
  obtain ⟨c, hc, n, _⟩ := loc H
  have : c = [] ∧ r = [] := by
    have := hc.symm
    simpa using this
  cases b with
  | false => exact ⟨rfl, this.2⟩
  | true =>
    rcases n rfl with ⟨p, z⟩ | z
    · cases z
    · exact absurd this.1 z
/-- the failing token, by its number -/
theorem place_at {x : Sy} {r : List Sy} {c : List Sy} (hc : syms t = c ++ x :: r) : ∃ p, (lx 0 0 t)[c.length]? = some (x, p) ∧ place (lx 0 0 t) (x :: r) = p := by
  have hl : (lx 0 0 t).length = c.length + (r.length + 1) := by
    have := congrArg List.length hc
    simpa [syms] using this
  have he := congrArg (·[c.length]?) hc
  simp only [syms, List.getElem?_map, List.getElem?_append_right (Nat.le_refl _), Nat.sub_self, List.getElem?_cons_zero, Option.map_eq_some_iff] at he
  obtain ⟨⟨y, p⟩, e1, rfl⟩ := he
  refine ⟨p, e1, ?_⟩
  simp only [place]
  rw [show (lx 0 0 t).length - (r.length + 1) = c.length by omega, e1]
theorem syms_len : (syms t).length = (lx 0 0 t).length := by simp [syms]
end
/-! joined by blanks -/
abbrev jn (L : List Sy) : List Nat := TL.joinL [32] L
theorem jn_cons (p q : Sy) (r : List Sy) : jn (p :: q :: r) = p ++ ([32] ++ jn (q :: r)) := rfl
theorem lx_jn : ∀ (L : List Sy), (∀ s ∈ L, Gs s) → ∀ p, (lx p 0 (jn L)).map (·.1) = L
  | [], _, p => by simp [jn, TL.joinL, lx_nil]
  | [s], h, p => by
    have := (h s (List.mem_cons_self ..)).wrd p
    show (lx p 0 s).map (·.1) = _
    rw [this]
    rfl
  | s :: q :: r, h, p => by
    rw [jn_cons, lx_app s _ p 0 (Nat.zero_le _) (fun x _ y hy z => by cases hy; cases z.2), (h s (List.mem_cons_self ..)).wrd p, lx_gap (by simp), List.map_append, lx_jn (q :: r) (fun s hs => h s (List.mem_cons_of_mem _ hs))]
    rfl
theorem jn_len : ∀ (L : List Sy), (∀ s ∈ L, Gs s) → (jn L).length ≤ 11 * L.length ∧ okV (.str (jn L)) = true
  | [], _ => ⟨Nat.le_refl _, rfl⟩
  | [s], h => by
    have := h s (List.mem_cons_self ..)
    refine ⟨?_, this.okv⟩
    have := this.len
    show s.length ≤ _
    simp only [List.length_cons, List.length_nil]
    omega
  | s :: q :: r, h => by
    obtain ⟨a, b⟩ := jn_len (q :: r) (fun s hs => h s (List.mem_cons_of_mem _ hs))
    have := h s (List.mem_cons_self ..)
    rw [jn_cons]
    refine ⟨?_, okV_app this.okv (okV_app (by decide +kernel) b)⟩
    have := this.len
    simp only [List.length_append, List.length_cons, List.length_nil] at a ⊢
    omega
theorem strs_of : ∀ L : List Sy, strsOf (L.map .str) = some L := strsOf_map
theorem join_a {L : List Sy} (hL : ∀ s ∈ L, Gs s) (hl : L.length ≤ 1000) {h : Hv} : vJoin (.str [32]) (.lst (L.map .str)) h = .ok (.str (jn L)) h := by
  have hs : (L.map List.length).sum ≤ 10 * L.length := by
    clear hl
    induction L with
    | nil => simp
    | cons s L ih =>
      have := (hL s (List.mem_cons_self ..)).len
      have := ih fun s hs => hL s (List.mem_cons_of_mem _ hs)
      simp only [List.map_cons, List.sum_cons, List.length_cons]
      omega
  simp only [vJoin, seqOf, lstOf, strs_of]
  rw [if_pos (by simp only [List.length_cons, List.length_nil]; omega)]
/-! whole numbers in lists -/
theorem inSeq_int (x : Int) : ∀ (L : List Int), inSeq (.int x) (L.map .int) = decide (x ∈ L)
  | [] => rfl
  | a :: L => by
    have ih := inSeq_int x L
    unfold inSeq at ih ⊢
    simp only [List.map_cons, List.any_cons, veq_int, ih]
    by_cases h : a = x
    · simp [h]
    · have : ¬ x = a := fun z => h z.symm
      simp [h, this]
theorem inOk_int (x : Int) (L : List Int) : inOk (.int x) (L.map .int) = true := by
  unfold inOk
  rw [okVs_ints, dpVs_ints]
  rfl
theorem notIn_int (x : Int) (L : List Int) (h : Hv) : vNotIn (.int x) (.lst (L.map .int)) h = .ok (.bl (!decide (x ∈ L))) h := by
  simp only [vNotIn, isIn, seqOf, lstOf, thaw, inOk_int, if_true, inSeq_int, Res.bind_ok]
theorem ints_of : ∀ L : List Int, intsOf' (L.map .int) = some L
  | [] => rfl
  | a :: L => by simp [intsOf', ints_of L]
theorem index_a {L : List Int} {x : Int} {j : Nat} (e : L.idxOf? x = some j) (h : Hv) : vIndex (.lst (L.map .int)) (.int x) h = .ok (.int j) h := by
  simp only [vIndex, lstOf, ints_of, e]
end L05
set_option Elab.async false
set_option linter.all false
set_option maxRecDepth 100000
set_option maxHeartbeats 1000000
set_option autoImplicit false
namespace L05
open GH PySem
abbrev SCR : List Sy := [wSome, [120], [88], [58], [40], [41], [44], wLabel, [97], wChild, [48], wIn, wNot, wAnd, wOr, wTrue, [63], wTop]
theorem scr_ok : ∀ s ∈ SCR, Gs s ∧ wt1 s ≤ 4 := fun s hs => by
  have := (by decide +kernel : ∀ s ∈ SCR, gsB s = true ∧ wt1 s ≤ 4) s hs
  exact ⟨gs_of this.1, this.2⟩
theorem scraps_sp {k : Nat} {o : Ob} {g : Hv} {P : Val → Hv → Prop} (ho : TapeOb o) (kk : ∀ (M : List Sy) o', (∀ s ∈ M, s ∈ SCR) → M.length ≤ 11 → TapeOb o' → P (.lst (M.map .str)) (o' :: g)) : ok (lev D (k + 2) 14 [.ref 0] (o :: g)) P := by
  show ok (runDef 3 (b__law_scraps (lev D (k + 1))) [.ref 0] (o :: g)) P
  rw [ok_run]
  unfold b__law_scraps
  refine asg_ (v := .lst (SCR.map .str)) (h1 := o :: g) ?_ ?_
  · simp only [e_lst, e_cons, e_c, e_nil, Res.bind_ok]
    exact mkL_ok (by simp)
  show sok (sSeq _ _ [some (.ref 0), some (.lst (SCR.map .str)), none] (o :: g)) _
  refine ret_ ?_
  simp only [ok_dLc, e_rng1, e_call, e_cons, dVar, List.getElem?_cons_zero, Res.bind_ok, e_c, e_nil, ok_bind]
  refine take_l ho (by omega) (by omega) fun m o1 m0 m1 ho1 => ?_
  rw [vRange1_ok m0 (by omega)]
  simp only [ok_ok]
  refine lcL_invo (fun items acc h => ∃ (M : List Sy) (o' : Ob), (∀ s ∈ M, s ∈ SCR) ∧ M.length + items.length ≤ 11 ∧ TapeOb o' ∧ acc = M.map .str ∧ h = o' :: g) ?_ ?_ _ _ _ ?_
  · intro I' hI x r acc h ⟨M, o', hM, hl, ho', ea, eh⟩
    subst ea eh
    refine ⟨trivial, ?_⟩
    simp only [e_name, tok_ok, e_yes, ok_ok, if_true, e_bin, e_call, e_cons, dVar, wipeL, List.foldl_cons, List.foldl_nil, List.set_cons_succ, List.set_cons_zero, List.getElem?_cons_succ, List.getElem?_cons_zero, Res.bind_ok, e_c, e_nil, ok_bind]
    refine take_l ho' (by omega) (by omega) fun q o2 q0 q1 ho2 => ?_
    obtain ⟨v, e1, e2⟩ := nth_of (l := SCR.map Val.str) q0 (by simpa using q1)
    obtain ⟨w, hw, rfl⟩ := List.mem_map.mp e2
    rw [vIx_lst e1]
    simp only [ok_ok]
    refine hI _ _ _ ⟨M ++ [w], o2, fun s hs => ?_, ?_, ho2, by simp, rfl⟩
    · rcases List.mem_append.mp hs with hs | hs
      · exact hM s hs
      · rw [List.mem_singleton.mp hs]; exact hw
    · simp only [List.length_append, List.length_cons, List.length_nil] at hl ⊢
      omega
  · intro acc h ⟨M, o', hM, hl, ho', ea, eh⟩
    subst ea eh
    refine ⟨trivial, ?_⟩
    simp only [ok_frozen]
    exact kk M o' hM (by simpa using hl) ho'
  · exact ⟨[], o1, by simp, by simp [rangeL]; omega, ho1, rfl, rfl⟩
theorem fin_sp {K : Nat} (hK : K = 114) {L : List Sy} (hL : ∀ s ∈ L, Gs s) (hl : L.length ≤ 1000) (hw : wt L ≤ 105) {b : Bool} {r : List Sy} (H : Run (.Q true) L b r) {x0 x1 x2 x3 x5 x6 x7 x10 x11 x12 x13 x14 : Option Val} {h : Hv} {Q : Post} (z : Q.rt (.bl true) h) :
    sok ((sSeq (sIf (dOr (dB (dBin vIsN (dVar 9) (dC .non))) (dB (dBin vEq (dVar 4) (dLst dNil)))) (sSeq (sRet (dOrV (dAndV (dBin vIsN (dVar 9) (dC .non)) (dBin vNe (dVar 4) (dLst dNil))) (dAndV (dBin vEq (dVar 4) (dLst dNil)) (dBin vEq (dVar 9) (dC (.int 0))))))
    sNext) sNext)
    (sSeq (sAsg (dLc frozen [14, 12] (iSeq (dVar 4)) (gTup 2 (gsCons (gName 14) (gsCons (gName 12) gsNil))) dYes (dVar 14)) (gName 10))
    (sSeq (sIf (dAnd (dB (dBin vEq (dVar 9) (dBin vIx (dBin vIx (dVar 4) (dNeg (dC (.int 1)))) (dC (.int 1))))) (dB (dBin vNotIn (dVar 9) (dVar 10)))) (sSeq (sRet (dC (.bl true)))
    sNext) sNext)
    (sSeq (sIf (dB (dBin vNotIn (dVar 9) (dVar 10))) (sSeq (sRet (dC (.bl false)))
    sNext) sNext)
    (sSeq (sAsg (dMeth1 isLst vIndex (dVar 10) (dVar 9)) (gName 11))
    (sSeq (sIf (dB (dBin vGt (dVar 11) (dC (.int 0)))) (sSeq (sAsg (dBin vIx (dBin vIx (dVar 4) (dBin vSub (dVar 11) (dC (.int 1)))) (dC (.int 1))) (gName 12))
    (sSeq (sAsg (dCall (lev D K 13) (dCons (dCut (dVar 8) oNone (oSome (dVar 12))) dNil)) (gName 13))
    (sSeq (sIf (dAnd (dB (dBin vNotN (dVar 13) (dC .non))) (dB (dBin vNe (dVar 13) (dVar 12)))) (sSeq (sRet (dC (.bl false)))
    sNext) sNext)
    sNext))) sNext)
    (sSeq (sRet (dCall (lev D K 7) (dCons (dCall (lev D K 13) (dCons (dCut (dVar 8) oNone (oSome (dBin vIx (dBin vIx (dVar 4) (dVar 11)) (dC (.int 1))))) dNil)) (dCons (dVar 9) dNil))))
    sNext))))))) [x0, x1, x2, x3, some (.lst ((lx 0 0 (jn L)).map fv)), x5, x6, x7, some (.str (jn L)), some (rdv (jn L) b r), x10, x11, x12, x13, x14] h) Q := by
  have hj := jn_len L hL
  have hj2 : (jn L).length ≤ 100000 := by omega
  have hs : syms (jn L) = L := lx_jn L hL 0
  generalize hT : jn L = T at *
  subst hs
  have frd : ∀ (q : Nat) (b : Bool) (r : List Sy) (h : Hv), wt (syms (T.take q)) ≤ 105 → Run (.Q true) (syms (T.take q)) b r → lev D K 13 [.str (T.take q)] h = .ok (rdv (T.take q) b r) h := fun q b r h hq hr => by
    refine read_a (by rw [List.length_take]; omega) (okV_take hj.2) hr (by omega)
  have fsame : ∀ (p : Int) (h : Hv), lev D K 7 [.int p, .int p] h = .ok (.bl true) h := fun p h => by subst hK; exact same_int (k := 112)
  have hw9 : ∀ n, wt ((syms T).take n) ≤ 105 := fun n => Nat.le_trans (wt_take n) hw
  generalize hF : lx 0 0 T = F at *
  have FE := fun h => vEq_lnil (F.map fv) (okVs_fv F) h
  have lnil : ∀ (l : GH.Loc) (h : Hv), dLst dNil l h = .ok (.lst []) h := fun l h => by rw [e_lst, e_nil, Res.bind_ok]; exact mkL_ok (by decide)
  by_cases hn : b = true ∧ r = []
  · obtain ⟨rfl, rfl⟩ := hn
    have hne : (F.map fv).isEmpty = false := by
      cases F with
      | cons a F => rfl
      | nil =>
        have := read_empty (t := T) (by simp [syms, hF]) H
        cases this.1
    have e9 : rdv T true [] = .non := by simp [rdv]
    rw [e9]
    refine if_ (c := true) (h := h) ?_ (fun _ => ret_ ?_) (fun z => by cases z)
    · simp [dVar, vIsN, isNon]
    · simp only [e_orv, e_andv, e_bin, dVar, List.getElem?_cons_succ, List.getElem?_cons_zero, Res.bind_ok, e_c, lnil, (FE h).2, hne, vIsN, isNon]
      simpa using z
  generalize hp : place (lx 0 0 T) r = p
  have e9 : rdv T b r = .int p := by
    unfold rdv
    rw [if_neg hn, hp]
  rw [e9]
  rw [hF] at hp
  cases hFe : F with
  | nil =>
    subst hFe
    have := read_empty (t := T) (by simp [syms, hF]) H
    rw [this.2] at hp
    have hp0 : p = 0 := hp.symm
    subst hp0
    refine if_ (c := true) (h := h) ?_ (fun _ => ret_ ?_) (fun z => by cases z)
    · simp only [e_or, e_b, e_bin, dVar, List.getElem?_cons_succ, List.getElem?_cons_zero, Res.bind_ok, e_c, lnil, (FE h).1, vIsN, isNon, resB_bl]
      rfl
    · simp only [e_orv, e_andv, e_bin, dVar, List.getElem?_cons_succ, List.getElem?_cons_zero, Res.bind_ok, e_c, lnil, (FE h).1, vIsN, isNon]
      simpa using z
  | cons a0 F0 =>
    rw [← hFe]
    have hne : (F.map fv).isEmpty = false := by rw [hFe]; rfl
    refine if_ (c := false) (h := h) ?_ (fun z => by cases z) (fun _ => ?_)
    · simp only [e_or, e_b, e_bin, dVar, List.getElem?_cons_succ, List.getElem?_cons_zero, Res.bind_ok, e_c, lnil, (FE h).1, hne, vIsN, isNon, resB_bl]
      rfl
    obtain ⟨G, x, hGx⟩ : ∃ G x, F = G ++ [x] := by
      rcases List.eq_nil_or_concat F with e | ⟨G, x, e⟩
      · rw [hFe] at e; cases e
      · exact ⟨G, x, by rw [e]; simp⟩
    refine asg_ (v := .lst ((F.map fun x => (x.2 : Int)).map .int)) (h1 := h) ?_ ?_
    · simp only [dLc, e_iseq, dVar, List.getElem?_cons_succ, List.getElem?_cons_zero, Res.bind_ok, vIter_lst]
      rw [lcL_mapL fv (fun x => .int x.2) (srcOk_none _ _) F [] fun x hx => ⟨_, rfl, rfl⟩]
      simp [frozen]
    show sok (sSeq _ _ [x0, x1, x2, x3, some (.lst (F.map fv)), x5, x6, x7, some (.str T), some (.int p), some (.lst ((F.map fun x => (x.2 : Int)).map .int)), x11, x12, x13, x14] h) _
    have c1 : dB (dBin vEq (dVar 9) (dBin vIx (dBin vIx (dVar 4) (dNeg (dC (.int 1)))) (dC (.int 1)))) [x0, x1, x2, x3, some (.lst (F.map fv)), x5, x6, x7, some (.str T), some (.int p), some (.lst ((F.map fun x => (x.2 : Int)).map .int)), x11, x12, x13, x14] h = .ok (decide ((p : Int) = x.fin)) h := by
      have el : F.map fv = G.map fv ++ [fv x] := by rw [hGx]; simp
      simp only [e_b, e_bin, dVar, List.getElem?_cons_succ, List.getElem?_cons_zero, Res.bind_ok, e_neg, e_c, el, ix_last, fv, t1, vEq_int, resB_bl]
    have c2 : dB (dBin vNotIn (dVar 9) (dVar 10)) [x0, x1, x2, x3, some (.lst (F.map fv)), x5, x6, x7, some (.str T), some (.int p), some (.lst ((F.map fun x => (x.2 : Int)).map .int)), x11, x12, x13, x14] h = .ok (!decide ((p : Int) ∈ F.map fun x => (x.2 : Int))) h := by
      simp only [e_b, e_bin, dVar, List.getElem?_cons_succ, List.getElem?_cons_zero, Res.bind_ok, notIn_int, resB_bl]
    cases r with
    | nil =>
      have hpx : p = x.fin := by
        rw [← hp, hGx]
        simp [place]
      have hnot : ¬ (p : Int) ∈ F.map fun x => (x.2 : Int) := fun hm => by
        obtain ⟨y, hy, e⟩ := List.mem_map.mp hm
        obtain ⟨i, hi⟩ := List.getElem?_of_mem hy
        have hxi : (lx 0 0 T)[G.length]? = some x := by rw [hF, hGx]; simp
        have hi' : (lx 0 0 T)[i]? = some y := by rw [hF]; exact hi
        have hlt := lx_ne (List.mem_of_getElem? hxi)
        have hil : i < G.length + 1 := by
          have := (List.getElem?_eq_some_iff.mp hi).1
          rw [hGx] at this
          simpa using this
        by_cases ei : i = G.length
        · rw [ei, hxi] at hi'
          cases hi'
          omega
        · have := lx_lt hi' hxi (by omega)
          have := lx_ne (List.mem_of_getElem? hi')
          omega
      refine if_ (c := true) (h := h) ?_ (fun _ => ret_ (by simpa using z)) (fun z => by cases z)
      rw [e_and, c1, decide_eq_true (by omega)]
      simp only [Res.bind_ok, if_true, c2, decide_eq_false hnot]
      rfl
    | cons y r' =>
      obtain ⟨c, hc, _, lc⟩ := loc H
      obtain ⟨p', hp1, hp2⟩ := place_at (t := T) hc
      rw [hF] at hp1 hp2
      have epp : p' = p := by rw [← hp2, hp]
      subst epp
      generalize hjj : c.length = j at hp1
      have hm : ((p' : Int) ∈ F.map fun x => (x.2 : Int)) := List.mem_map.mpr ⟨_, List.mem_of_getElem? hp1, rfl⟩
      refine if_ (c := false) (h := h) ?_ (fun z => by cases z) (fun _ => ?_)
      · rw [e_and, c1]
        cases decide ((p' : Int) = x.fin) with
        | false => rfl
        | true => simp only [Res.bind_ok, if_true, c2, decide_eq_true hm]; rfl
      refine if_ (c := false) (h := h) (by rw [c2, decide_eq_true hm]; rfl) (fun z => by cases z) (fun _ => ?_)
      have hix : (F.map fun x => (x.2 : Int)).idxOf? (p' : Int) = some j := by
        refine List.idxOf?_eq_some_iff.mpr ⟨by have := (List.getElem?_eq_some_iff.mp hp1).1; simpa using this, ?_, fun i hi => ?_⟩
        · obtain ⟨h1, h2⟩ := List.getElem?_eq_some_iff.mp hp1
          simp [h2]
        · have hjl := (List.getElem?_eq_some_iff.mp hp1).1
          have h1 : F[i]? = some F[i] := List.getElem?_eq_getElem (by omega)
          have h2 := lx_lt (t := T) (by rw [hF]; exact h1) (by rw [hF]; exact hp1) hi
          have h3 := lx_ne (t := T) (x := F[i]) (by rw [hF]; exact List.getElem_mem _)
          simp only [List.getElem_map, beq_eq_false_iff_ne, ne_eq]
          simp only at h2
          omega
      refine asg_ (v := .int j) (h1 := h) ?_ ?_
      · simp only [e_meth1, dVar, List.getElem?_cons_succ, List.getElem?_cons_zero, Res.bind_ok]
        rw [if_pos (show isLst h (.lst ((F.map fun x => (x.2 : Int)).map .int)) = true from rfl)]
        exact index_a hix h
      show sok (sSeq _ _ [x0, x1, x2, x3, some (.lst (F.map fv)), x5, x6, x7, some (.str T), some (.int p'), some (.lst ((F.map fun x => (x.2 : Int)).map .int)), some (.int j), x12, x13, x14] h) _
      have sy : ∀ (m : Nat) (w : Tk), F[m]? = some w → syms (T.take w.fin) = (syms T).take (m + 1) := fun m w hw => by
        unfold syms
        rw [cut_fin (by rw [hF]; exact hw), List.map_take]
      have last : ∀ x12 x13 : Option Val, sok ((sSeq (sRet (dCall (lev D K 7) (dCons (dCall (lev D K 13) (dCons (dCut (dVar 8) oNone (oSome (dBin vIx (dBin vIx (dVar 4) (dVar 11)) (dC (.int 1))))) dNil)) (dCons (dVar 9) dNil))))
    sNext) [x0, x1, x2, x3, some (.lst (F.map fv)), x5, x6, x7, some (.str T), some (.int p'), some (.lst ((F.map fun x => (x.2 : Int)).map .int)), some (.int j), x12, x13, x14] h) Q := fun x12 x13 => by
        refine ret_ ?_
        have e1 : vIx (.lst (F.map fv)) (.int j) h = .ok (fv (y, p')) h := vIx_lst (nth_nat (by rw [List.getElem?_map, hp1]; rfl))
        simp only [e_call, e_cons, e_cut, e_onone, e_osome, e_bin, dVar, List.getElem?_cons_succ, List.getElem?_cons_zero, Res.bind_ok, e1, fv, t1, e_c, e_nil, cut_to hj2]
        have hsy := sy j (y, p') hp1
        have htk : (syms T).take (j + 1) = c ++ [y] := by
          rw [hc, ← hjj, List.take_append, List.take_of_length_le (by omega)]
          simp
        have hrun : Run (.Q true) (syms (T.take (Tk.fin (y, p')))) b [y] := by
          rw [hsy, htk]
          exact lc [y] (.inl rfl)
        rw [frd (Tk.fin (y, p')) b [y] h (by rw [hsy]; exact hw9 _) hrun]
        have hpl : rdv (T.take (Tk.fin (y, p'))) b [y] = .int p' := by
          unfold rdv
          rw [if_neg (by rintro ⟨_, z⟩; cases z)]
          obtain ⟨p2, q1, q2⟩ := place_at (t := T.take (Tk.fin (y, p'))) (x := y) (r := []) (c := c) (by rw [hsy, htk])
          rw [q2]
          rw [cut_fin (by rw [hF]; exact hp1), hF, List.getElem?_take_of_lt (by omega), hjj, hp1] at q1
          cases q1
          rfl
        rw [hpl]
        simp only [Res.bind_ok, fsame, ok_ok]
        exact z
      by_cases hj0 : j = 0
      · refine if_ (c := false) (h := h) ?_ (fun z => by cases z) (fun _ => last x12 x13)
        simp [dVar, hj0]
      · obtain ⟨i, rfl⟩ : ∃ i, j = i + 1 := ⟨j - 1, by omega⟩
        have hjl := (List.getElem?_eq_some_iff.mp hp1).1
        have h1 : F[i]? = some F[i] := List.getElem?_eq_getElem (by omega)
        generalize F[i]'(by omega) = w at h1
        refine if_ (c := true) (h := h) (by simp [dVar]) (fun _ => ?_) (fun z => by cases z)
        refine asg_ (v := .int w.fin) (h1 := h) ?_ ?_
        · have e1 : vIx (.lst (F.map fv)) (.int i) h = .ok (fv w) h := vIx_lst (nth_nat (by rw [List.getElem?_map, h1]; rfl))
          simp only [e_bin, dVar, List.getElem?_cons_succ, List.getElem?_cons_zero, Res.bind_ok, e_c, vSub_int]
          rw [show (((i + 1 : Nat) : Int) - 1) = (i : Nat) by omega, e1]
          rfl
        show sok (sSeq _ _ [x0, x1, x2, x3, some (.lst (F.map fv)), x5, x6, x7, some (.str T), some (.int p'), some (.lst ((F.map fun x => (x.2 : Int)).map .int)), some (.int (i + 1 : Nat)), some (.int w.fin), x13, x14] h) _
        have hsy := sy i w h1
        have htk : (syms T).take (i + 1) = c := by
          rw [hc, ← hjj, List.take_left']
          rfl
        have hrun : Run (.Q true) (syms (T.take w.fin)) b [] := by
          rw [hsy, htk]
          have := lc [] (.inr (.inl rfl))
          simpa using this
        have hrd : lev D K 13 [.str (T.take w.fin)] h = .ok (rdv (T.take w.fin) b []) h := frd w.fin b [] h (by rw [hsy]; exact hw9 _) hrun
        refine asg_ (v := rdv (T.take w.fin) b []) (h1 := h) ?_ ?_
        · simp only [e_call, e_cons, e_cut, e_onone, e_osome, dVar, List.getElem?_cons_succ, List.getElem?_cons_zero, Res.bind_ok, e_nil, cut_to hj2, hrd]
        show sok (sSeq _ _ [x0, x1, x2, x3, some (.lst (F.map fv)), x5, x6, x7, some (.str T), some (.int p'), some (.lst ((F.map fun x => (x.2 : Int)).map .int)), some (.int (i + 1 : Nat)), some (.int w.fin), some (rdv (T.take w.fin) b []), x14] h) _
        have hrv : rdv (T.take w.fin) b [] = .non ∨ rdv (T.take w.fin) b [] = .int w.fin := by
          unfold rdv
          by_cases hb : b = true
          · rw [if_pos ⟨hb, rfl⟩]; exact .inl rfl
          · rw [if_neg (fun z => hb z.1)]
            refine .inr ?_
            rw [cut_fin (by rw [hF]; exact h1), hF]
            have : (F.take (i + 1)).getLast? = some w := by
              rw [List.getLast?_eq_getElem?, List.length_take, Nat.min_eq_left (by omega), List.getElem?_take_of_lt (by omega)]
              simpa using h1
            simp only [place, this]
        refine if_ (c := false) (h := h) ?_ (fun z => by cases z) (fun _ => ?_)
        · rcases hrv with e | e <;> rw [e] <;> simp [dVar, vNotN, isNon]
        · exact last _ _
end L05
set_option Elab.async false
set_option linter.all false
set_option maxRecDepth 100000
set_option maxHeartbeats 1000000
set_option autoImplicit false
namespace L05
open GH PySem
theorem wt_le : ∀ (L : List Sy), (∀ s ∈ L, wt1 s ≤ 4) → wt L ≤ 4 * L.length
  | [], _ => Nat.le_refl _
  | s :: L, h => by
    have := wt_le L fun s hs => h s (List.mem_cons_of_mem _ hs)
    have := h s (List.mem_cons_self ..)
    simp only [wt, List.length_cons]
    omega
theorem wt_drop {ss : List Sy} (n : Nat) : wt (ss.drop n) ≤ wt ss := by
  have := wt_app (ss.take n) (ss.drop n)
  rw [List.take_append_drop] at this
  omega
theorem cutI_to {L : List Sy} {i : Int} {h : Hv} (h0 : 0 ≤ i) : vCut (.lst (L.map .str)) none (some i) h = .ok (.lst ((L.take i.toNat).map .str)) h := by
  obtain ⟨n, rfl⟩ : ∃ n : Nat, i = n := ⟨i.toNat, by omega⟩
  simp only [vCut, lstOf, cut_take, Int.toNat_natCast, List.map_take]
theorem cutI_from {L : List Sy} {i : Int} {h : Hv} (h0 : 0 ≤ i) : vCut (.lst (L.map .str)) (some i) none h = .ok (.lst ((L.drop i.toNat).map .str)) h := by
  obtain ⟨n, rfl⟩ : ∃ n : Nat, i = n := ⟨i.toNat, by omega⟩
  simp only [vCut, lstOf, cut_drop, Int.toNat_natCast, List.map_drop]
theorem addL {A B : List Sy} {h : Hv} (hl : A.length + B.length ≤ 16777216) : vAdd (.lst (A.map .str)) (.lst (B.map .str)) h = .ok (.lst ((A ++ B).map .str)) h := by
  rw [add_lst (by simpa using hl), List.map_append]
/-- the text that the law makes of the printed formula -/
structure Ln (L : List Sy) : Prop where
  gs : ∀ s ∈ L, Gs s
  len : L.length ≤ 1000
  wt : wt L ≤ 105
theorem body_sp {K : Nat} (hK : K = 114) {u : List Nat} (hu : u.length ≤ 20000) (ou : okV (.str u) = true) (hT : ∀ s ∈ syms u, Gs s) (hTl : (syms u).length ≤ 200) (hw : wt (syms u) ≤ 92) (hr : Run (.Q true) (syms u) true []) (hlst : Lst (syms u))
    {o : Ob} {g : Hv} (ho : TapeOb o) {x0 x2 x4 x5 x6 x7 x8 x9 x10 x11 x12 x13 x14 : Option Val} {Q : Post} (z : ∀ h, Q.rt (.bl true) h) :
    sok ((sSeq (sAsg (dCall (lev D K 15) (dCons (dBin vIx (dVar 3) (dC (.str [116, 101, 120, 116]))) dNil)) (gName 4))
    (sSeq (sIf (dOr (dB (dBin vNotN (dCall (lev D K 13) (dCons (dBin vIx (dVar 3) (dC (.str [116, 101, 120, 116]))) dNil)) (dC .non))) (dB (dBin vIsN (dCall (lev D K 13) (dCons (dCut (dBin vIx (dVar 3) (dC (.str [116, 101, 120, 116]))) oNone (oSome (dBin vIx (dBin vIx (dVar 4) (dNeg (dC (.int 1)))) (dC (.int 0))))) dNil)) (dC .non)))) (sSeq (sRet (dC (.bl false)))
    sNext) sNext)
    (sSeq (sAsg (dCall (lev D K 4) (dCons (dVar 1) (dCons (dLen (dVar 4)) dNil))) (gName 2))
    (sSeq (sAsg (dLc frozen [14, 12] (iSeq (dVar 4)) (gTup 2 (gsCons (gName 14) (gsCons (gName 12) gsNil))) dYes (dCut (dBin vIx (dVar 3) (dC (.str [116, 101, 120, 116]))) (oSome (dVar 14)) (oSome (dVar 12)))) (gName 5))
    (sSeq (sAsg (dCall (lev D K 4) (dCons (dVar 1) (dCons (dC (.int 5)) dNil))) (gName 6))
    (sSeq (sAsg (dCall (lev D K 14) (dCons (dVar 1) dNil)) (gName 7))
    (sSeq (sIf (dB (dBin vEq (dVar 6) (dC (.int 0)))) (sSeq (sAsg (dCut (dVar 5) oNone (oSome (dVar 2))) (gName 5))
    sNext) (sSeq (sIf (dB (dBin vEq (dVar 6) (dC (.int 1)))) (sSeq (sAsg (dBin vAdd (dCut (dVar 5) oNone (oSome (dVar 2))) (dCut (dVar 5) (oSome (dBin vAdd (dVar 2) (dC (.int 1)))) oNone)) (gName 5))
    sNext) (sSeq (sIf (dB (dBin vEq (dVar 6) (dC (.int 2)))) (sSeq (sAsg (dVar 7) (gName 5))
    sNext) (sSeq (sAsg (dBin vAdd (dBin vAdd (dCut (dVar 5) oNone (oSome (dVar 2))) (dCut (dVar 7) oNone (oSome (dBin vAdd (dC (.int 1)) (dCall (lev D K 4) (dCons (dVar 1) (dCons (dC (.int 2)) dNil))))))) (dCut (dVar 5) (oSome (dBin vAdd (dVar 2) (dCall (lev D K 4) (dCons (dVar 1) (dCons (dC (.int 2)) dNil))))) oNone)) (gName 5))
    sNext))
    sNext))
    sNext))
    (sSeq (sAsg (dMeth1 isStr vJoin (dC (.str [32])) (dVar 5)) (gName 8))
    (sSeq (sAsg (dCall (lev D K 13) (dCons (dVar 8) dNil)) (gName 9))
    (sSeq (sAsg (dCall (lev D K 15) (dCons (dVar 8) dNil)) (gName 4))
    (sSeq (sIf (dOr (dB (dBin vIsN (dVar 9) (dC .non))) (dB (dBin vEq (dVar 4) (dLst dNil)))) (sSeq (sRet (dOrV (dAndV (dBin vIsN (dVar 9) (dC .non)) (dBin vNe (dVar 4) (dLst dNil))) (dAndV (dBin vEq (dVar 4) (dLst dNil)) (dBin vEq (dVar 9) (dC (.int 0))))))
    sNext) sNext)
    (sSeq (sAsg (dLc frozen [14, 12] (iSeq (dVar 4)) (gTup 2 (gsCons (gName 14) (gsCons (gName 12) gsNil))) dYes (dVar 14)) (gName 10))
    (sSeq (sIf (dAnd (dB (dBin vEq (dVar 9) (dBin vIx (dBin vIx (dVar 4) (dNeg (dC (.int 1)))) (dC (.int 1))))) (dB (dBin vNotIn (dVar 9) (dVar 10)))) (sSeq (sRet (dC (.bl true)))
    sNext) sNext)
    (sSeq (sIf (dB (dBin vNotIn (dVar 9) (dVar 10))) (sSeq (sRet (dC (.bl false)))
    sNext) sNext)
    (sSeq (sAsg (dMeth1 isLst vIndex (dVar 10) (dVar 9)) (gName 11))
    (sSeq (sIf (dB (dBin vGt (dVar 11) (dC (.int 0)))) (sSeq (sAsg (dBin vIx (dBin vIx (dVar 4) (dBin vSub (dVar 11) (dC (.int 1)))) (dC (.int 1))) (gName 12))
    (sSeq (sAsg (dCall (lev D K 13) (dCons (dCut (dVar 8) oNone (oSome (dVar 12))) dNil)) (gName 13))
    (sSeq (sIf (dAnd (dB (dBin vNotN (dVar 13) (dC .non))) (dB (dBin vNe (dVar 13) (dVar 12)))) (sSeq (sRet (dC (.bl false)))
    sNext) sNext)
    sNext))) sNext)
    (sSeq (sRet (dCall (lev D K 7) (dCons (dCall (lev D K 13) (dCons (dCut (dVar 8) oNone (oSome (dBin vIx (dBin vIx (dVar 4) (dVar 11)) (dC (.int 1))))) dNil)) (dCons (dVar 9) dNil))))
    sNext))))))))))))))))) [x0, some (.ref 0), x2, some (.ref 1), x4, x5, x6, x7, x8, x9, x10, x11, x12, x13, x14] (o :: outd u :: g)) Q := by
  have tk : ∀ (m : Int) (o : Ob) (g : Hv) (P : Val → Hv → Prop), 0 < m → m < 100000 → TapeOb o → (∀ r o', 0 ≤ r → r < m → TapeOb o' → P (.int r) (o' :: g)) → ok (lev D K 4 [.ref 0, .int m] (o :: g)) P := fun m o g P h0 h1 ho z => by
    subst hK; exact take_l (k := 113) ho h0 (by omega) z
  have frd : ∀ (t : List Nat) (b : Bool) (r : List Sy) (h : Hv), t.length ≤ 100000 → okV (.str t) = true → wt (syms t) ≤ 105 → Run (.Q true) (syms t) b r → lev D K 13 [.str t] h = .ok (rdv t b r) h := fun t b r h h1 h2 h3 h4 => read_a h1 h2 h4 (by omega)
  have ftk : ∀ (t : List Nat) (h : Hv), t.length ≤ 100000 → lev D K 15 [.str t] h = .ok (.lst ((lx 0 0 t).map fv)) h := fun t h h1 => by subst hK; exact ltokens_a (k := 113) h1
  have fsc : ∀ {o : Ob} {g : Hv} {P : Val → Hv → Prop}, TapeOb o → (∀ (M : List Sy) o', (∀ s ∈ M, s ∈ SCR) → M.length ≤ 11 → TapeOb o' → P (.lst (M.map .str)) (o' :: g)) → ok (lev D K 14 [.ref 0] (o :: g)) P := fun ho kk => by subst hK; exact scraps_sp (k := 112) ho kk
  obtain ⟨T0, x, hTx, hx⟩ := hlst
  have hsy : syms u = (lx 0 0 u).map (·.1) := rfl
  obtain ⟨G, y, hG, hGT, hyx⟩ : ∃ G y, lx 0 0 u = G ++ [y] ∧ G.map (·.1) = T0 ∧ y.1 = x := by
    rcases List.eq_nil_or_concat (lx 0 0 u) with e | ⟨G, y, e⟩
    · rw [hsy, e] at hTx
      have := congrArg List.length hTx
      simp at this
    · rw [hsy, e] at hTx
      have h2 : G.map (·.1) ++ [y.1] = T0 ++ [x] := by simpa using hTx
      have := List.append_inj' h2 rfl
      exact ⟨G, y, by rw [e]; simp, this.1, by simpa using this.2⟩
  refine asg_ (v := .lst ((lx 0 0 u).map fv)) (h1 := o :: outd u :: g) ?_ ?_
  · simp only [e_call, e_cons, e_bin, dVar, List.getElem?_cons_succ, List.getElem?_cons_zero, Res.bind_ok, e_c, e_nil]
    rw [show vIx (.ref 1) (.str [116, 101, 120, 116]) (o :: outd u :: g) = _ from vIx_out]
    simp only [Res.bind_ok, ftk u _ (by omega)]
  show sok (sSeq _ _ [x0, some (.ref 0), x2, some (.ref 1), some (.lst ((lx 0 0 u).map fv)), x5, x6, x7, x8, x9, x10, x11, x12, x13, x14] (o :: outd u :: g)) _
  refine if_ (c := false) (h := o :: outd u :: g) ?_ (fun z => by cases z) (fun _ => ?_)
  · have e1 : dB (dBin vNotN (dCall (lev D K 13) (dCons (dBin vIx (dVar 3) (dC (.str [116, 101, 120, 116]))) dNil)) (dC .non)) [x0, some (.ref 0), x2, some (.ref 1), some (.lst ((lx 0 0 u).map fv)), x5, x6, x7, x8, x9, x10, x11, x12, x13, x14] (o :: outd u :: g) = .ok false (o :: outd u :: g) := by
      simp only [e_b, e_call, e_cons, e_bin, dVar, List.getElem?_cons_succ, List.getElem?_cons_zero, Res.bind_ok, e_c, e_nil]
      rw [show vIx (.ref 1) (.str [116, 101, 120, 116]) (o :: outd u :: g) = _ from vIx_out]
      simp only [Res.bind_ok, frd u true [] _ (by omega) ou (by omega) hr]
      rfl
    have hsc : syms (u.take y.2) = T0 := by
      unfold syms
      rw [cut_start hG, hGT]
    obtain ⟨b, r, H⟩ := tot (T0.length) T0 (Nat.le_refl _) (.Q true)
    have hwT : wt T0 ≤ 92 := by
      rw [hTx, wt_app] at hw
      omega
    have hnot : ¬ (b = true ∧ r = []) := by
      rintro ⟨rfl, rfl⟩
      obtain ⟨c, hc, _, lc⟩ := loc H
      have hc' : c = T0 := by simpa using hc.symm
      subst hc'
      have st : stp [x] := by
        rcases hx with rfl | rfl <;> exact ⟨by decide, by decide⟩
      have h2 := lc [x] (.inr (.inr ⟨rfl, st⟩))
      rw [← hTx] at h2
      have a1 := read_a (t := u) (by omega) ou hr (h := []) (k := 200) (by omega)
      have a2 := read_a (t := u) (by omega) ou h2 (h := []) (k := 200) (by omega)
      rw [a1] at a2
      unfold rdv at a2
      rw [if_pos ⟨rfl, rfl⟩, if_neg (by rintro ⟨_, z⟩; cases z)] at a2
      cases a2
    have e2 : dB (dBin vIsN (dCall (lev D K 13) (dCons (dCut (dBin vIx (dVar 3) (dC (.str [116, 101, 120, 116]))) oNone (oSome (dBin vIx (dBin vIx (dVar 4) (dNeg (dC (.int 1)))) (dC (.int 0))))) dNil)) (dC .non)) [x0, some (.ref 0), x2, some (.ref 1), some (.lst ((lx 0 0 u).map fv)), x5, x6, x7, x8, x9, x10, x11, x12, x13, x14] (o :: outd u :: g) = .ok false (o :: outd u :: g) := by
      have el : (lx 0 0 u).map fv = G.map fv ++ [fv y] := by rw [hG]; simp
      simp only [e_b, e_call, e_cons, e_bin, e_cut, e_onone, e_osome, dVar, List.getElem?_cons_succ, List.getElem?_cons_zero, Res.bind_ok, e_c, e_nil, e_neg]
      rw [show vIx (.ref 1) (.str [116, 101, 120, 116]) (o :: outd u :: g) = _ from vIx_out]
      simp only [Res.bind_ok, el, ix_last, fv, t0, cut_to (show u.length ≤ 100000 by omega)]
      rw [frd (u.take y.2) b r _ (by rw [List.length_take]; omega) (okV_take ou) (by rw [hsc]; omega) (by rw [hsc]; exact H)]
      unfold rdv
      rw [if_neg hnot]
      rfl
    rw [e_or, e1]
    simp only [Res.bind_ok, Bool.false_eq_true, if_false]
    exact e2
  have hFl : (lx 0 0 u).length = (syms u).length := by simp [hsy]
  have hF0 : 0 < (lx 0 0 u).length := by rw [hG]; simp
  refine asgo_ (fun v h => ∃ (n : Int) (o' : Ob), 0 ≤ n ∧ TapeOb o' ∧ v = .int n ∧ h = o' :: outd u :: g) (fun Q' hQ => ?_) ?_
  · simp only [e_call, e_cons, e_len, dVar, List.getElem?_cons_succ, List.getElem?_cons_zero, Res.bind_ok, vLen_lst, List.length_map, e_nil]
    refine tk _ o _ _ (by omega) (by omega) ho fun r o' r0 r1 ho' => hQ _ _ ⟨r, o', r0, ho', rfl, rfl⟩
  rintro v h ⟨n, o1, n0, ho1, rfl, rfl⟩
  show sok (sSeq _ _ [x0, some (.ref 0), some (.int n), some (.ref 1), some (.lst ((lx 0 0 u).map fv)), x5, x6, x7, x8, x9, x10, x11, x12, x13, x14] (o1 :: outd u :: g)) _
  refine asg_ (v := .lst ((syms u).map .str)) (h1 := o1 :: outd u :: g) ?_ ?_
  · simp only [dLc, e_iseq, dVar, List.getElem?_cons_succ, List.getElem?_cons_zero, Res.bind_ok, vIter_lst]
    rw [lcL_mapL fv (fun x => .str x.1) (srcOk_none _ _) (lx 0 0 u) [] fun x hx => ⟨_, rfl, ?_⟩]
    · simp [frozen, hsy]
    · obtain ⟨_, hwd⟩ := lx_word u 0 0 x hx
      simp only [e_cut, e_bin, e_osome, dVar, wipeL, List.set_cons_succ, List.set_cons_zero, List.getElem?_cons_succ, List.getElem?_cons_zero, Res.bind_ok, e_c]
      rw [show vIx (.ref 1) (.str [116, 101, 120, 116]) (o1 :: outd u :: g) = _ from vIx_out]
      simp only [Res.bind_ok, cut_str (show u.length ≤ 100000 by omega)]
      rw [show x.fin - x.2 = x.1.length by simp only [Tk.fin]; omega]
      simp only [Nat.sub_zero] at hwd
      rw [hwd]
  show sok (sSeq _ _ [x0, some (.ref 0), some (.int n), some (.ref 1), some (.lst ((lx 0 0 u).map fv)), some (.lst ((syms u).map .str)), x6, x7, x8, x9, x10, x11, x12, x13, x14] (o1 :: outd u :: g)) _
  refine asgo_ (fun v h => ∃ (c : Int) (o' : Ob), TapeOb o' ∧ v = .int c ∧ h = o' :: outd u :: g) (fun Q' hQ => ?_) ?_
  · simp only [e_call, e_cons, e_c, dVar, List.getElem?_cons_succ, List.getElem?_cons_zero, Res.bind_ok, e_nil]
    refine tk _ o1 _ _ (by omega) (by omega) ho1 fun r o' r0 r1 ho' => hQ _ _ ⟨r, o', ho', rfl, rfl⟩
  rintro v h ⟨c, o2, ho2, rfl, rfl⟩
  show sok (sSeq _ _ [x0, some (.ref 0), some (.int n), some (.ref 1), some (.lst ((lx 0 0 u).map fv)), some (.lst ((syms u).map .str)), some (.int c), x7, x8, x9, x10, x11, x12, x13, x14] (o2 :: outd u :: g)) _
  refine asgo_ (fun v h => ∃ (M : List Sy) (o' : Ob), (∀ s ∈ M, s ∈ SCR) ∧ M.length ≤ 11 ∧ TapeOb o' ∧ v = .lst (M.map .str) ∧ h = o' :: outd u :: g) (fun Q' hQ => ?_) ?_
  · simp only [e_call, e_cons, e_c, dVar, List.getElem?_cons_succ, List.getElem?_cons_zero, Res.bind_ok, e_nil]
    refine fsc ho2 fun M o' hM hl ho' => hQ _ _ ⟨M, o', hM, hl, ho', rfl, rfl⟩
  rintro v h ⟨M, o3, hM, hMl, ho3, rfl, rfl⟩
  show sok (sSeq _ _ [x0, some (.ref 0), some (.int n), some (.ref 1), some (.lst ((lx 0 0 u).map fv)), some (.lst ((syms u).map .str)), some (.int c), some (.lst (M.map .str)), x8, x9, x10, x11, x12, x13, x14] (o3 :: outd u :: g)) _
  have gM : ∀ s ∈ M, Gs s ∧ wt1 s ≤ 4 := fun s hs => scr_ok s (hM s hs)
  have gTt : ∀ i, ∀ s ∈ (syms u).take i, Gs s := fun i s hs => hT s (List.mem_of_mem_take hs)
  have gTd : ∀ i, ∀ s ∈ (syms u).drop i, Gs s := fun i s hs => hT s (List.mem_of_mem_drop hs)
  generalize hS : syms u = S at *
  refine sok_seqo (fun l h => ∃ (L : List Sy) (o' : Ob), Ln L ∧ l = [x0, some (.ref 0), some (.int n), some (.ref 1), some (.lst ((lx 0 0 u).map fv)), some (.lst (L.map .str)), some (.int c), some (.lst (M.map .str)), x8, x9, x10, x11, x12, x13, x14] ∧ h = o' :: outd u :: g) (fun R' hR => ?_) ?_
  · have cc : ∀ (v : Int) (H : Hv), dB (dBin vEq (dVar 6) (dC (.int v))) [x0, some (.ref 0), some (.int n), some (.ref 1), some (.lst ((lx 0 0 u).map fv)), some (.lst (S.map .str)), some (.int c), some (.lst (M.map .str)), x8, x9, x10, x11, x12, x13, x14] H = .ok (decide (c = v)) H := fun v H => by
      simp only [e_b, e_bin, dVar, List.getElem?_cons_succ, List.getElem?_cons_zero, Res.bind_ok, e_c, vEq_int, resB_bl]
    refine sif_ (cc 0 _) (fun _ => ?_) fun _ => sone (sif_ (cc 1 _) (fun _ => ?_) fun _ => sone (sif_ (cc 2 _) (fun _ => ?_) fun _ => ?_))
    · refine asg_ (v := .lst ((S.take n.toNat).map .str)) (h1 := o3 :: outd u :: g) ?_ ?_
      · simp only [e_cut, e_onone, e_osome, dVar, List.getElem?_cons_succ, List.getElem?_cons_zero, Res.bind_ok, cutI_to n0]
      · exact hR _ _ ⟨_, o3, ⟨gTt _, by rw [List.length_take]; omega, Nat.le_trans (wt_take _) (by omega)⟩, rfl, rfl⟩
    · refine asg_ (v := .lst ((S.take n.toNat ++ S.drop (n + 1).toNat).map .str)) (h1 := o3 :: outd u :: g) ?_ ?_
      · simp only [e_cut, e_onone, e_osome, e_bin, e_c, dVar, List.getElem?_cons_succ, List.getElem?_cons_zero, Res.bind_ok, cutI_to n0, vAdd_int, cutI_from (show 0 ≤ n + 1 by omega)]
        exact addL (by rw [List.length_take, List.length_drop]; omega)
      · refine hR _ _ ⟨_, o3, ⟨fun s hs => ?_, by rw [List.length_append, List.length_take, List.length_drop]; omega, ?_⟩, rfl, rfl⟩
        · rcases List.mem_append.mp hs with hs | hs
          · exact gTt _ s hs
          · exact gTd _ s hs
        · have e1 : wt S = wt (S.take n.toNat) + wt (S.drop n.toNat) := by rw [← wt_app, List.take_append_drop]
          have e2 : wt (S.drop (n + 1).toNat) ≤ wt (S.drop n.toNat) := by
            rw [show (n + 1).toNat = n.toNat + 1 by omega, ← List.drop_drop]
            exact wt_drop 1
          rw [wt_app]
          omega
    · refine asg_ (v := .lst (M.map .str)) (h1 := o3 :: outd u :: g) rfl ?_
      refine hR _ _ ⟨M, o3, ⟨fun s hs => (gM s hs).1, by omega, ?_⟩, rfl, rfl⟩
      have := wt_le M fun s hs => (gM s hs).2
      omega
    · refine asgo_ (fun v h => ∃ (L : List Sy) (o' : Ob), Ln L ∧ v = .lst (L.map .str) ∧ h = o' :: outd u :: g) (fun Q' hQ => ?_) ?_
      · simp only [e_cut, e_onone, e_osome, e_bin, e_c, e_call, e_cons, e_nil, dVar, List.getElem?_cons_succ, List.getElem?_cons_zero, Res.bind_ok, cutI_to n0, ok_bind]
        refine tk 2 o3 _ _ (by omega) (by omega) ho3 fun a o4 a0 a1 ho4 => ?_
        simp only [vAdd_int, ok_ok, cutI_to (show 0 ≤ 1 + a by omega)]
        rw [addL (by rw [List.length_take, List.length_take]; omega)]
        simp only [ok_ok]
        refine tk 2 o4 _ _ (by omega) (by omega) ho4 fun e o5 e0 e1 ho5 => ?_
        simp only [vAdd_int, ok_ok, cutI_from (show 0 ≤ n + e by omega)]
        rw [addL (by rw [List.length_append, List.length_take, List.length_take, List.length_drop]; omega)]
        simp only [ok_ok]
        refine hQ _ _ ⟨_, o5, ⟨fun s hs => ?_, by rw [List.length_append, List.length_append, List.length_take, List.length_take, List.length_drop]; omega, ?_⟩, rfl, rfl⟩
        · rcases List.mem_append.mp hs with hs | hs
          · rcases List.mem_append.mp hs with hs | hs
            · exact gTt _ s hs
            · exact (gM s (List.mem_of_mem_take hs)).1
          · exact gTd _ s hs
        · have q1 : wt S = wt (S.take n.toNat) + wt (S.drop n.toNat) := by rw [← wt_app, List.take_append_drop]
          have q2 : wt (S.drop (n + e).toNat) ≤ wt (S.drop n.toNat) := by
            rw [show (n + e).toNat = n.toNat + e.toNat by omega, ← List.drop_drop]
            exact wt_drop _
          have q3 := wt_le (M.take (1 + a).toNat) fun s hs => (gM s (List.mem_of_mem_take hs)).2
          rw [List.length_take] at q3
          rw [wt_app, wt_app]
          omega
      · rintro v h ⟨L, o', hL, rfl, rfl⟩
        exact hR _ _ ⟨L, o', hL, rfl, rfl⟩
  rintro l h ⟨L, o4, hL, rfl, rfl⟩
  obtain ⟨j1, j2⟩ := jn_len L hL.gs
  have jl : (jn L).length ≤ 100000 := by have := hL.len; omega
  have js : syms (jn L) = L := lx_jn L hL.gs 0
  obtain ⟨b, r, H⟩ := tot L.length L (Nat.le_refl _) (.Q true)
  generalize o4 :: outd u :: g = H4
  refine asg_ (v := .str (jn L)) (h1 := H4) ?_ ?_
  · simp only [e_meth1, e_c, dVar, List.getElem?_cons_succ, List.getElem?_cons_zero, Res.bind_ok]
    rw [if_pos (show isStr H4 (.str [32]) = true from rfl)]
    exact join_a hL.gs hL.len
  show sok (sSeq _ _ [x0, some (.ref 0), some (.int n), some (.ref 1), some (.lst ((lx 0 0 u).map fv)), some (.lst (L.map .str)), some (.int c), some (.lst (M.map .str)), some (.str (jn L)), x9, x10, x11, x12, x13, x14] H4) _
  refine asg_ (v := rdv (jn L) b r) (h1 := H4) ?_ ?_
  · simp only [e_call, e_cons, dVar, List.getElem?_cons_succ, List.getElem?_cons_zero, Res.bind_ok, e_nil]
    exact frd (jn L) b r H4 jl j2 (by rw [js]; exact hL.wt) (by rw [js]; exact H)
  show sok (sSeq _ _ [x0, some (.ref 0), some (.int n), some (.ref 1), some (.lst ((lx 0 0 u).map fv)), some (.lst (L.map .str)), some (.int c), some (.lst (M.map .str)), some (.str (jn L)), some (rdv (jn L) b r), x10, x11, x12, x13, x14] H4) _
  refine asg_ (v := .lst ((lx 0 0 (jn L)).map fv)) (h1 := H4) ?_ ?_
  · simp only [e_call, e_cons, dVar, List.getElem?_cons_succ, List.getElem?_cons_zero, Res.bind_ok, e_nil]
    exact ftk _ _ jl
  exact fin_sp hK hL.gs hL.len hL.wt H (z H4)
theorem law_true (ns : List Int) (h0 : ns.length ≤ 63) : ∃ h', lev D 115 17 [.fz (ns.map .int)] [] = .ok (.bl true) h' := by
  have main : ∀ K, K = 114 → ok (runDef 15 (b_law (lev D K)) [.fz (ns.map .int)] []) fun v _ => v = .bl true := by
    intro K hK
    rw [ok_run]
    unfold b_law
    generalize hs0 : Val.fz (ns.map .int) = s0
    refine asgo_ (fun v h => ∃ o, TapeOb o ∧ v = .ref 0 ∧ h = [o]) (fun Q' hQ => ?_) ?_
    · simp only [e_call, e_cons, e_nil, dVar, List.map_cons, List.map_nil, List.cons_append, List.nil_append, List.length_cons, List.length_nil, List.replicate, List.getElem?_cons_zero, Res.bind_ok]
      subst hK hs0
      exact tape_sp (h := []) fun o ho => hQ _ _ ⟨o, ho, rfl, rfl⟩
    rintro v h ⟨o, ho, rfl, rfl⟩
    show sok (sSeq _ _ [some s0, some (.ref 0), none, none, none, none, none, none, none, none, none, none, none, none, none] [o]) _
    refine sok_seqo (fun l h => ∃ x2 o, TapeOb o ∧ l = [some s0, some (.ref 0), x2, none, none, none, none, none, none, none, none, none, none, none, none] ∧ h = [o]) (fun R' hR => ?_) ?_
    · rw [e_for, e_rng1, e_c]
      simp only [Res.bind_ok]
      rw [vRange1_ok (by omega) (by omega)]
      simp only [Res.to_ok]
      refine forL_invo (fun items l h => ∃ x2 o, TapeOb o ∧ l = [some s0, some (.ref 0), x2, none, none, none, none, none, none, none, none, none, none, none, none] ∧ h = [o]) ?_ ?_ _ _ _ ?_
      · rintro I' hI x r l h ⟨x2, o, ho, rfl, rfl⟩
        refine ⟨trivial, ?_⟩
        simp only [e_name, tok_ok, List.set_cons_succ, List.set_cons_zero]
        refine sone ?_
        rw [e_if, sok_to]
        simp only [e_not, e_tru, e_call, e_cons, dVar, List.getElem?_cons_succ, List.getElem?_cons_zero, Res.bind_ok, e_nil, ok_bind]
        refine typed_sp (by omega) ho fun o' ho' => ?_
        simp only [vTru_bl, ok_ok, Bool.not_true, Bool.false_eq_true, if_false, e_next, sok_nx]
        exact hI _ _ _ ⟨_, o', ho', rfl, rfl⟩
      · rintro l h ⟨x2, o, ho, rfl, rfl⟩
        exact ⟨trivial, hR _ _ ⟨x2, o, ho, rfl, rfl⟩⟩
      · exact ⟨none, o, ho, rfl, rfl⟩
    rintro l h ⟨x2, o, ho, rfl, rfl⟩
    refine asg_ (v := .ref 1) (h1 := [o, outd []]) rfl ?_
    show sok (sSeq _ _ [some s0, some (.ref 0), x2, some (.ref 1), none, none, none, none, none, none, none, none, none, none, none] [o, outd []]) _
    refine sexpr ?_
    have m2 : ∀ a b h, mkTup [a, b] h = .ok (.tup [a, b]) h := fun a b h => mk2 a b h
    simp only [e_call, e_cons, e_nil, e_c, e_tup, e_lst, dVar, List.getElem?_cons_succ, List.getElem?_cons_zero, Res.bind_ok, m2, ok_bind]
    rw [mkL_ok (by decide)]
    simp only [ok_ok]
    rw [mkL_ok (by decide)]
    simp only [ok_ok]
    subst hK
    refine gen_matrix 3 (k := 108) (n := 2) (ls := [[97], [98]]) (S := [[120], [121]]) (T := [[88]]) ho ⟨rfl, rfl⟩ (by decide) (by decide) (by decide) (by decide) fun f o1 gf hf ho1 => ?_
    have hNN : NN f.ht ≤ 115 := NN_mono hf
    have hWW : WW f.ht ≤ 92 := WW_mono hf
    refine lv (show 114 = (110 - f.ht) + f.ht + 4 by omega) (putf_sp f gf (Int.le_refl 0) ho1 (by simp only [List.length_nil]; omega) fun u o2 g2 T a1 a2 a3 a4 a5 a6 => ?_)
    have hsT : syms u = T := by
      have := a5.sy
      simpa [syms, lx_nil] using this
    have acc : AccE T := by simpa [AccN] using a1
    have hr : Run (.Q true) (syms u) true [] := by
      have := acc [] true [] (by decide) (.ls (by decide))
      rw [hsT]
      simpa using this
    have ou := a5.okv rfl
    have hul := a5.len
    simp only [List.length_nil] at hul
    refine body_sp (K := 114) rfl (u := u) (by omega) ou (by rw [hsT]; exact a5.gs) (by rw [hsT]; omega) (by rw [hsT]; omega) hr (hsT ▸ a4) a6 fun h => rfl
  obtain ⟨v, h', e, rfl⟩ := ok_eq (main 114 rfl)
  exact ⟨h', e⟩
end L05
set_option Elab.async false
set_option linter.all false
set_option maxRecDepth 100000
set_option maxHeartbeats 0
namespace L05
open PySem PySem.Spec PyProof.Rows L2 GH

def fn0 : List He.DefD := ([⟨("is_set_name", none), "is_set_name", "is_set_name", defArgs (top 4), defBody (top 4), defScope (top 4), [], []⟩, ⟨("tokens", none), "tokens", "tokens", defArgs (top 10), defBody (top 10), defScope (top 10), [], []⟩, ⟨("read_formula", none), "read_formula", "read_formula", defArgs (top 12), defBody (top 12), defScope (top 12), [], []⟩, ⟨("_law_tape", none), "_law_tape", "_law_tape", defArgs (top 14), defBody (top 14), defScope (top 14), [], []⟩, ⟨("_law_take", none), "_law_take", "_law_take", defArgs (top 15), defBody (top 15), defScope (top 15), [], []⟩, ⟨("_law_is_integer", none), "_law_is_integer", "_law_is_integer", defArgs (top 16), defBody (top 16), defScope (top 16), [], []⟩, ⟨("_law_same_items", none), "_law_same_items", "_law_same_items", defArgs (top 17), defBody (top 17), defScope (top 17), [], []⟩, ⟨("_law_same", none), "_law_same", "_law_same", defArgs (top 18), defBody (top 18), defScope (top 18), [], []⟩, ⟨("_law_atom", none), "_law_atom", "_law_atom", defArgs (top 19), defBody (top 19), defScope (top 19), [], []⟩, ⟨("_law_matrix", none), "_law_matrix", "_law_matrix", defArgs (top 20), defBody (top 20), defScope (top 20), [], []⟩, ⟨("_law_put", none), "_law_put", "_law_put", defArgs (top 21), defBody (top 21), defScope (top 21), [], []⟩, ⟨("_law_put_all", none), "_law_put_all", "_law_put_all", defArgs (top 22), defBody (top 22), defScope (top 22), [], []⟩, ⟨("_law_put_formula", none), "_law_put_formula", "_law_put_formula", defArgs (top 23), defBody (top 23), defScope (top 23), [], []⟩, ⟨("_law_read", none), "_law_read", "_law_read", defArgs (top 24), defBody (top 24), defScope (top 24), [], []⟩, ⟨("_law_scraps", none), "_law_scraps", "_law_scraps", defArgs (top 25), defBody (top 25), defScope (top 25), [], []⟩, ⟨("_law_tokens", none), "_law_tokens", "_law_tokens", defArgs (top 26), defBody (top 26), defScope (top 26), [], []⟩, ⟨("_law_typed_right", none), "_law_typed_right", "_law_typed_right", defArgs (top 27), defBody (top 27), defScope (top 27), [], []⟩, ⟨("law", none), "law", "law", defArgs (top 28), defBody (top 28), defScope (top 28), [], []⟩, ⟨(sOf [82, 101, 97, 100, 101, 114], some (sOf [95, 95, 105, 110, 105, 116, 95, 95])), "__init__", "Reader.__init__", defArgs (mth 11 0), defBody (mth 11 0), defScope (mth 11 0), [], []⟩, ⟨(sOf [82, 101, 97, 100, 101, 114], some (sOf [110, 101, 101, 100])), "need", "Reader.need", defArgs (mth 11 1), defBody (mth 11 1), defScope (mth 11 1), [], []⟩, ⟨(sOf [82, 101, 97, 100, 101, 114], some (sOf [102, 105, 120, 101, 100])), "fixed", "Reader.fixed", defArgs (mth 11 2), defBody (mth 11 2), defScope (mth 11 2), [], []⟩, ⟨(sOf [82, 101, 97, 100, 101, 114], some (sOf [116, 97, 107, 101])), "take", "Reader.take", defArgs (mth 11 3), defBody (mth 11 3), defScope (mth 11 3), [], []⟩, ⟨(sOf [82, 101, 97, 100, 101, 114], some (sOf [110, 97, 109, 101])), "name", "Reader.name", defArgs (mth 11 4), defBody (mth 11 4), defScope (mth 11 4), [], []⟩, ⟨(sOf [82, 101, 97, 100, 101, 114], some (sOf [101, 105, 116, 104, 101, 114])), "either", "Reader.either", defArgs (mth 11 5), defBody (mth 11 5), defScope (mth 11 5), [], []⟩, ⟨(sOf [82, 101, 97, 100, 101, 114], some (sOf [98, 111, 116, 104])), "both", "Reader.both", defArgs (mth 11 6), defBody (mth 11 6), defScope (mth 11 6), [], []⟩, ⟨(sOf [82, 101, 97, 100, 101, 114], some (sOf [100, 101, 110, 105, 101, 100])), "denied", "Reader.denied", defArgs (mth 11 7), defBody (mth 11 7), defScope (mth 11 7), [], []⟩, ⟨(sOf [82, 101, 97, 100, 101, 114], some (sOf [112, 97, 105, 114])), "pair", "Reader.pair", defArgs (mth 11 8), defBody (mth 11 8), defScope (mth 11 8), [], []⟩, ⟨(sOf [82, 101, 97, 100, 101, 114], some (sOf [115, 105, 110, 103, 108, 101])), "single", "Reader.single", defArgs (mth 11 9), defBody (mth 11 9), defScope (mth 11 9), [], []⟩, ⟨(sOf [82, 101, 97, 100, 101, 114], some (sOf [115, 105, 109, 112, 108, 101])), "simple", "Reader.simple", defArgs (mth 11 10), defBody (mth 11 10), defScope (mth 11 10), [], []⟩, ⟨(sOf [83, 121, 110, 116, 97, 120, 80, 114, 111, 98, 108, 101, 109], some (sOf [95, 95, 105, 110, 105, 116, 95, 95])), "__init__", "SyntaxProblem.__init__", defArgs (mth 2 0), defBody (mth 2 0), defScope (mth 2 0), [], []⟩])
def fn : List He.DefD := fn0
def fa0 : List He.Fa := ([.glo "is_set_name", .glo "tokens", .glo "read_formula", .glo "_law_tape", .glo "_law_take", .glo "_law_is_integer", .glo "_law_same_items", .glo "_law_same", .glo "_law_atom", .glo "_law_matrix", .glo "_law_put", .glo "_law_put_all", .glo "_law_put_formula", .glo "_law_read", .glo "_law_scraps", .glo "_law_tokens", .glo "_law_typed_right", .glo "law", .free "abs", .free "bool", .free "dict", .free "int", .free "isinstance", .free "len", .free "list", .free "range", .free "str", .free "tuple", .str "DIGITS" (sOf [48, 49, 50, 51, 52, 53, 54, 55, 56, 57]), .str "LETTERS" (sOf [97, 98, 99, 100, 101, 102, 103, 104, 105, 106, 107, 108, 109, 110, 111, 112, 113, 114, 115, 116, 117, 118, 119, 120, 121, 122, 65, 66, 67, 68, 69, 70, 71, 72, 73, 74, 75, 76, 77, 78, 79, 80, 81, 82, 83, 84, 85, 86, 87, 88, 89, 90])])
def fa1 : List He.Fa := ([.str "SIGNS" (sOf [40, 41, 44, 58]), .glo "WORDS", .meth (sOf [83, 121, 110, 116, 97, 120, 80, 114, 111, 98, 108, 101, 109]) (sOf [95, 95, 105, 110, 105, 116, 95, 95]), .noat (sOf [83, 121, 110, 116, 97, 120, 80, 114, 111, 98, 108, 101, 109]) (sOf [115, 116, 97, 114, 116]), .exm (sOf [83, 121, 110, 116, 97, 120, 80, 114, 111, 98, 108, 101, 109]) (sOf [83, 121, 110, 116, 97, 120, 80, 114, 111, 98, 108, 101, 109]) true, .glo (sOf [83, 121, 110, 116, 97, 120, 80, 114, 111, 98, 108, 101, 109]), .cls (sOf [82, 101, 97, 100, 101, 114]), .mkr (sOf [82, 101, 97, 100, 101, 114]), .glo (sOf [82, 101, 97, 100, 101, 114]), .noat (sOf [82, 101, 97, 100, 101, 114]) (sOf [97, 116]), .noat (sOf [82, 101, 97, 100, 101, 114]) (sOf [102, 111, 117, 110, 100]), .meth (sOf [82, 101, 97, 100, 101, 114]) (sOf [95, 95, 105, 110, 105, 116, 95, 95]), .meth (sOf [82, 101, 97, 100, 101, 114]) (sOf [110, 101, 101, 100]), .meth (sOf [82, 101, 97, 100, 101, 114]) (sOf [102, 105, 120, 101, 100]), .meth (sOf [82, 101, 97, 100, 101, 114]) (sOf [116, 97, 107, 101]), .meth (sOf [82, 101, 97, 100, 101, 114]) (sOf [110, 97, 109, 101]), .meth (sOf [82, 101, 97, 100, 101, 114]) (sOf [101, 105, 116, 104, 101, 114]), .meth (sOf [82, 101, 97, 100, 101, 114]) (sOf [98, 111, 116, 104]), .meth (sOf [82, 101, 97, 100, 101, 114]) (sOf [100, 101, 110, 105, 101, 100]), .meth (sOf [82, 101, 97, 100, 101, 114]) (sOf [112, 97, 105, 114]), .meth (sOf [82, 101, 97, 100, 101, 114]) (sOf [115, 105, 110, 103, 108, 101]), .meth (sOf [82, 101, 97, 100, 101, 114]) (sOf [115, 105, 109, 112, 108, 101])])
def fa : List He.Fa := fa0 ++ fa1
def nm0 : List PySem.Str := ([("SayError" : PySem.Str), ("SyntaxProblem" : PySem.Str), ("is_set_name" : PySem.Str), ("LETTERS" : PySem.Str), ("DIGITS" : PySem.Str), ("WORDS" : PySem.Str), ("SIGNS" : PySem.Str), ("tokens" : PySem.Str), ("Reader" : PySem.Str), ("read_formula" : PySem.Str), ("_law_tape" : PySem.Str), ("_law_take" : PySem.Str), ("_law_is_integer" : PySem.Str), ("_law_same_items" : PySem.Str), ("_law_same" : PySem.Str), ("_law_atom" : PySem.Str), ("_law_matrix" : PySem.Str), ("_law_put" : PySem.Str), ("_law_put_all" : PySem.Str), ("_law_put_formula" : PySem.Str), ("_law_read" : PySem.Str), ("_law_scraps" : PySem.Str), ("_law_tokens" : PySem.Str), ("_law_typed_right" : PySem.Str)])
def nm : List PySem.Str := nm0
def ex (K : PySem.W.Frag) : Bool := [He.tupB K "WORDS" ([[116, 114, 117, 101], [110, 111, 116], [97, 110, 100], [111, 114], [115, 111, 109, 101], [97, 108, 108], [105, 110], [105, 110, 115, 105, 100, 101], [98, 101, 108, 111, 119], [115, 97, 109, 101], [116, 111, 112], [99, 104, 105, 108, 100], [108, 97, 98, 101, 108]].map fun s => He.Dv.str (sOf s)), GH.oexB K (clsA K [83, 121, 110, 116, 97, 120, 80, 114, 111, 98, 108, 101, 109]), xfB K (clsA K [83, 121, 110, 116, 97, 120, 80, 114, 111, 98, 108, 101, 109])].all id
theorem ex_at {K : PySem.W.Frag} (c : ex K = true) (i : Nat) {b : Bool} (h : [He.tupB K "WORDS" ([[116, 114, 117, 101], [110, 111, 116], [97, 110, 100], [111, 114], [115, 111, 109, 101], [97, 108, 108], [105, 110], [105, 110, 115, 105, 100, 101], [98, 101, 108, 111, 119], [115, 97, 109, 101], [116, 111, 112], [99, 104, 105, 108, 100], [108, 97, 98, 101, 108]].map fun s => He.Dv.str (sOf s)), GH.oexB K (clsA K [83, 121, 110, 116, 97, 120, 80, 114, 111, 98, 108, 101, 109]), xfB K (clsA K [83, 121, 110, 116, 97, 120, 80, 114, 111, 98, 108, 101, 109])][i]? = some b := by rfl) : b = true := List.all_eq_true.mp c b (List.mem_of_getElem? h)
abbrev R : PySem.W.OpenRow := PySem.W.OpenLaw.row PySem.Challenge.rw_grovehouse_k05_first_wrong_token
abbrev hk : PySem.W.Hook := He.hookX 7 fa fn [] [] ex
def ob (s : PySem.W.SharedT) : He.AlX := He.obsX 7 fa fn [] [] ex (HandSHeadRun.getT s)
theorem ob_eq (s : PySem.W.SharedT) : ob s = hk.obs s.abs := He.obsX_eq (HandSHeadRun.getT_eq s)
theorem run (w : World) : HandSHeadRun.RunEq R (PySem.W.view R.prog [28]) hk ob 3000 nm w := by
  intro os
  kernel_rfl
theorem u_is_set_name {K : PySem.W.Frag} (c : He.SaysD fa fn K) : ∃ fd, FnP K "is_set_name" 4 fd ∧ Binds K fd ["name"] [] := by
  obtain ⟨fd, F⟩ := c.def_ 0 (d := ⟨("is_set_name", none), "is_set_name", "is_set_name", defArgs (top 4), defBody (top 4), defScope (top 4), [], []⟩) rfl
  exact ⟨fd, F, FunD.bindsN (ps := ["name"]) F fun _ _ _ _ _ _ us hl => match us, hl with | [_], _ => rfl⟩
theorem u_tokens {K : PySem.W.Frag} (c : He.SaysD fa fn K) : ∃ fd, FnP K "tokens" 10 fd ∧ Binds K fd ["text"] [] := by
  obtain ⟨fd, F⟩ := c.def_ 1 (d := ⟨("tokens", none), "tokens", "tokens", defArgs (top 10), defBody (top 10), defScope (top 10), [], []⟩) rfl
  exact ⟨fd, F, FunD.bindsN (ps := ["text"]) F fun _ _ _ _ _ _ us hl => match us, hl with | [_], _ => rfl⟩
theorem u_read_formula {K : PySem.W.Frag} (c : He.SaysD fa fn K) : ∃ fd, FnP K "read_formula" 12 fd ∧ Binds K fd ["text"] [] := by
  obtain ⟨fd, F⟩ := c.def_ 2 (d := ⟨("read_formula", none), "read_formula", "read_formula", defArgs (top 12), defBody (top 12), defScope (top 12), [], []⟩) rfl
  exact ⟨fd, F, FunD.bindsN (ps := ["text"]) F fun _ _ _ _ _ _ us hl => match us, hl with | [_], _ => rfl⟩
theorem u__law_tape {K : PySem.W.Frag} (c : He.SaysD fa fn K) : ∃ fd, FnP K "_law_tape" 14 fd ∧ Binds K fd ["script"] [] := by
  obtain ⟨fd, F⟩ := c.def_ 3 (d := ⟨("_law_tape", none), "_law_tape", "_law_tape", defArgs (top 14), defBody (top 14), defScope (top 14), [], []⟩) rfl
  exact ⟨fd, F, FunD.bindsN (ps := ["script"]) F fun _ _ _ _ _ _ us hl => match us, hl with | [_], _ => rfl⟩
theorem u__law_take {K : PySem.W.Frag} (c : He.SaysD fa fn K) : ∃ fd, FnP K "_law_take" 15 fd ∧ Binds K fd ["tape", "many"] [] := by
  obtain ⟨fd, F⟩ := c.def_ 4 (d := ⟨("_law_take", none), "_law_take", "_law_take", defArgs (top 15), defBody (top 15), defScope (top 15), [], []⟩) rfl
  exact ⟨fd, F, FunD.bindsN (ps := ["tape", "many"]) F fun _ _ _ _ _ _ us hl => match us, hl with | [_, _], _ => rfl⟩
theorem u__law_is_integer {K : PySem.W.Frag} (c : He.SaysD fa fn K) : ∃ fd, FnP K "_law_is_integer" 16 fd ∧ Binds K fd ["actual"] [] := by
  obtain ⟨fd, F⟩ := c.def_ 5 (d := ⟨("_law_is_integer", none), "_law_is_integer", "_law_is_integer", defArgs (top 16), defBody (top 16), defScope (top 16), [], []⟩) rfl
  exact ⟨fd, F, FunD.bindsN (ps := ["actual"]) F fun _ _ _ _ _ _ us hl => match us, hl with | [_], _ => rfl⟩
theorem u__law_same_items {K : PySem.W.Frag} (c : He.SaysD fa fn K) : ∃ fd, FnP K "_law_same_items" 17 fd ∧ Binds K fd ["actual", "expected"] [] := by
  obtain ⟨fd, F⟩ := c.def_ 6 (d := ⟨("_law_same_items", none), "_law_same_items", "_law_same_items", defArgs (top 17), defBody (top 17), defScope (top 17), [], []⟩) rfl
  exact ⟨fd, F, FunD.bindsN (ps := ["actual", "expected"]) F fun _ _ _ _ _ _ us hl => match us, hl with | [_, _], _ => rfl⟩
theorem u__law_same {K : PySem.W.Frag} (c : He.SaysD fa fn K) : ∃ fd, FnP K "_law_same" 18 fd ∧ Binds K fd ["actual", "expected"] [] := by
  obtain ⟨fd, F⟩ := c.def_ 7 (d := ⟨("_law_same", none), "_law_same", "_law_same", defArgs (top 18), defBody (top 18), defScope (top 18), [], []⟩) rfl
  exact ⟨fd, F, FunD.bindsN (ps := ["actual", "expected"]) F fun _ _ _ _ _ _ us hl => match us, hl with | [_, _], _ => rfl⟩
theorem u__law_atom {K : PySem.W.Frag} (c : He.SaysD fa fn K) : ∃ fd, FnP K "_law_atom" 19 fd ∧ Binds K fd ["tape", "kind", "singles", "sets"] [] := by
  obtain ⟨fd, F⟩ := c.def_ 8 (d := ⟨("_law_atom", none), "_law_atom", "_law_atom", defArgs (top 19), defBody (top 19), defScope (top 19), [], []⟩) rfl
  exact ⟨fd, F, FunD.bindsN (ps := ["tape", "kind", "singles", "sets"]) F fun _ _ _ _ _ _ us hl => match us, hl with | [_, _, _, _], _ => rfl⟩
theorem u__law_matrix {K : PySem.W.Frag} (c : He.SaysD fa fn K) : ∃ fd, FnP K "_law_matrix" 20 fd ∧ Binds K fd ["tape", "kind", "singles", "sets", "depth"] [] := by
  obtain ⟨fd, F⟩ := c.def_ 9 (d := ⟨("_law_matrix", none), "_law_matrix", "_law_matrix", defArgs (top 20), defBody (top 20), defScope (top 20), [], []⟩) rfl
  exact ⟨fd, F, FunD.bindsN (ps := ["tape", "kind", "singles", "sets", "depth"]) F fun _ _ _ _ _ _ us hl => match us, hl with | [_, _, _, _, _], _ => rfl⟩
theorem u__law_put {K : PySem.W.Frag} (c : He.SaysD fa fn K) : ∃ fd, FnP K "_law_put" 21 fd ∧ Binds K fd ["tape", "out", "string"] [] := by
  obtain ⟨fd, F⟩ := c.def_ 10 (d := ⟨("_law_put", none), "_law_put", "_law_put", defArgs (top 21), defBody (top 21), defScope (top 21), [], []⟩) rfl
  exact ⟨fd, F, FunD.bindsN (ps := ["tape", "out", "string"]) F fun _ _ _ _ _ _ us hl => match us, hl with | [_, _, _], _ => rfl⟩
theorem u__law_put_all {K : PySem.W.Frag} (c : He.SaysD fa fn K) : ∃ fd, FnP K "_law_put_all" 22 fd ∧ Binds K fd ["tape", "out", "strings"] [] := by
  obtain ⟨fd, F⟩ := c.def_ 11 (d := ⟨("_law_put_all", none), "_law_put_all", "_law_put_all", defArgs (top 22), defBody (top 22), defScope (top 22), [], []⟩) rfl
  exact ⟨fd, F, FunD.bindsN (ps := ["tape", "out", "strings"]) F fun _ _ _ _ _ _ us hl => match us, hl with | [_, _, _], _ => rfl⟩
theorem u__law_put_formula {K : PySem.W.Frag} (c : He.SaysD fa fn K) : ∃ fd, FnP K "_law_put_formula" 23 fd ∧ Binds K fd ["tape", "out", "formula", "least"] [] := by
  obtain ⟨fd, F⟩ := c.def_ 12 (d := ⟨("_law_put_formula", none), "_law_put_formula", "_law_put_formula", defArgs (top 23), defBody (top 23), defScope (top 23), [], []⟩) rfl
  exact ⟨fd, F, FunD.bindsN (ps := ["tape", "out", "formula", "least"]) F fun _ _ _ _ _ _ us hl => match us, hl with | [_, _, _, _], _ => rfl⟩
theorem u__law_read {K : PySem.W.Frag} (c : He.SaysD fa fn K) : ∃ fd, FnP K "_law_read" 24 fd ∧ Binds K fd ["text"] [] := by
  obtain ⟨fd, F⟩ := c.def_ 13 (d := ⟨("_law_read", none), "_law_read", "_law_read", defArgs (top 24), defBody (top 24), defScope (top 24), [], []⟩) rfl
  exact ⟨fd, F, FunD.bindsN (ps := ["text"]) F fun _ _ _ _ _ _ us hl => match us, hl with | [_], _ => rfl⟩
theorem u__law_scraps {K : PySem.W.Frag} (c : He.SaysD fa fn K) : ∃ fd, FnP K "_law_scraps" 25 fd ∧ Binds K fd ["tape"] [] := by
  obtain ⟨fd, F⟩ := c.def_ 14 (d := ⟨("_law_scraps", none), "_law_scraps", "_law_scraps", defArgs (top 25), defBody (top 25), defScope (top 25), [], []⟩) rfl
  exact ⟨fd, F, FunD.bindsN (ps := ["tape"]) F fun _ _ _ _ _ _ us hl => match us, hl with | [_], _ => rfl⟩
theorem u__law_tokens {K : PySem.W.Frag} (c : He.SaysD fa fn K) : ∃ fd, FnP K "_law_tokens" 26 fd ∧ Binds K fd ["text"] [] := by
  obtain ⟨fd, F⟩ := c.def_ 15 (d := ⟨("_law_tokens", none), "_law_tokens", "_law_tokens", defArgs (top 26), defBody (top 26), defScope (top 26), [], []⟩) rfl
  exact ⟨fd, F, FunD.bindsN (ps := ["text"]) F fun _ _ _ _ _ _ us hl => match us, hl with | [_], _ => rfl⟩
theorem u__law_typed_right {K : PySem.W.Frag} (c : He.SaysD fa fn K) : ∃ fd, FnP K "_law_typed_right" 27 fd ∧ Binds K fd ["tape"] [] := by
  obtain ⟨fd, F⟩ := c.def_ 16 (d := ⟨("_law_typed_right", none), "_law_typed_right", "_law_typed_right", defArgs (top 27), defBody (top 27), defScope (top 27), [], []⟩) rfl
  exact ⟨fd, F, FunD.bindsN (ps := ["tape"]) F fun _ _ _ _ _ _ us hl => match us, hl with | [_], _ => rfl⟩
theorem u_law {K : PySem.W.Frag} (c : He.SaysD fa fn K) : ∃ fd, FnP K "law" 28 fd ∧ Binds K fd ["script"] [] := by
  obtain ⟨fd, F⟩ := c.def_ 17 (d := ⟨("law", none), "law", "law", defArgs (top 28), defBody (top 28), defScope (top 28), [], []⟩) rfl
  exact ⟨fd, F, FunD.bindsN (ps := ["script"]) F fun _ _ _ _ _ _ us hl => match us, hl with | [_], _ => rfl⟩
theorem u_Reader_init {K : PySem.W.Frag} (c : He.SaysD fa fn K) : ∃ fd, FunD K "__init__" "Reader.__init__" (defArgs (mth 11 0)) (defBody (mth 11 0)) (defScope (mth 11 0)) [] [] (He.ma K (clsA K [82, 101, 97, 100, 101, 114]) (sOf [95, 95, 105, 110, 105, 116, 95, 95])) fd ∧ Binds K fd ["self", "text"] [] := by
  obtain ⟨fd, F⟩ := c.def_ 18 (d := ⟨(sOf [82, 101, 97, 100, 101, 114], some (sOf [95, 95, 105, 110, 105, 116, 95, 95])), "__init__", "Reader.__init__", defArgs (mth 11 0), defBody (mth 11 0), defScope (mth 11 0), [], []⟩) rfl
  exact ⟨fd, F, FunD.bindsN (ps := ["self", "text"]) F fun _ _ _ _ _ _ us hl => match us, hl with | [_, _], _ => rfl⟩
theorem u_Reader_need {K : PySem.W.Frag} (c : He.SaysD fa fn K) : ∃ fd, FunD K "need" "Reader.need" (defArgs (mth 11 1)) (defBody (mth 11 1)) (defScope (mth 11 1)) [] [] (He.ma K (clsA K [82, 101, 97, 100, 101, 114]) (sOf [110, 101, 101, 100])) fd ∧ Binds K fd ["self", "condition"] [] := by
  obtain ⟨fd, F⟩ := c.def_ 19 (d := ⟨(sOf [82, 101, 97, 100, 101, 114], some (sOf [110, 101, 101, 100])), "need", "Reader.need", defArgs (mth 11 1), defBody (mth 11 1), defScope (mth 11 1), [], []⟩) rfl
  exact ⟨fd, F, FunD.bindsN (ps := ["self", "condition"]) F fun _ _ _ _ _ _ us hl => match us, hl with | [_, _], _ => rfl⟩
theorem u_Reader_fixed {K : PySem.W.Frag} (c : He.SaysD fa fn K) : ∃ fd, FunD K "fixed" "Reader.fixed" (defArgs (mth 11 2)) (defBody (mth 11 2)) (defScope (mth 11 2)) [] [] (He.ma K (clsA K [82, 101, 97, 100, 101, 114]) (sOf [102, 105, 120, 101, 100])) fd ∧ Binds K fd ["self"] [] := by
  obtain ⟨fd, F⟩ := c.def_ 20 (d := ⟨(sOf [82, 101, 97, 100, 101, 114], some (sOf [102, 105, 120, 101, 100])), "fixed", "Reader.fixed", defArgs (mth 11 2), defBody (mth 11 2), defScope (mth 11 2), [], []⟩) rfl
  exact ⟨fd, F, FunD.bindsN (ps := ["self"]) F fun _ _ _ _ _ _ us hl => match us, hl with | [_], _ => rfl⟩
theorem u_Reader_take {K : PySem.W.Frag} (c : He.SaysD fa fn K) : ∃ fd, FunD K "take" "Reader.take" (defArgs (mth 11 3)) (defBody (mth 11 3)) (defScope (mth 11 3)) [] [] (He.ma K (clsA K [82, 101, 97, 100, 101, 114]) (sOf [116, 97, 107, 101])) fd ∧ Binds K fd ["self", "expected"] [] := by
  obtain ⟨fd, F⟩ := c.def_ 21 (d := ⟨(sOf [82, 101, 97, 100, 101, 114], some (sOf [116, 97, 107, 101])), "take", "Reader.take", defArgs (mth 11 3), defBody (mth 11 3), defScope (mth 11 3), [], []⟩) rfl
  exact ⟨fd, F, FunD.bindsN (ps := ["self", "expected"]) F fun _ _ _ _ _ _ us hl => match us, hl with | [_, _], _ => rfl⟩
theorem u_Reader_name {K : PySem.W.Frag} (c : He.SaysD fa fn K) : ∃ fd, FunD K "name" "Reader.name" (defArgs (mth 11 4)) (defBody (mth 11 4)) (defScope (mth 11 4)) [] [] (He.ma K (clsA K [82, 101, 97, 100, 101, 114]) (sOf [110, 97, 109, 101])) fd ∧ Binds K fd ["self", "sort"] [] := by
  obtain ⟨fd, F⟩ := c.def_ 22 (d := ⟨(sOf [82, 101, 97, 100, 101, 114], some (sOf [110, 97, 109, 101])), "name", "Reader.name", defArgs (mth 11 4), defBody (mth 11 4), defScope (mth 11 4), [], []⟩) rfl
  exact ⟨fd, F, FunD.bindsN (ps := ["self", "sort"]) F fun _ _ _ _ _ _ us hl => match us, hl with | [_, _], _ => rfl⟩
theorem u_Reader_either {K : PySem.W.Frag} (c : He.SaysD fa fn K) : ∃ fd, FunD K "either" "Reader.either" (defArgs (mth 11 5)) (defBody (mth 11 5)) (defScope (mth 11 5)) [] [] (He.ma K (clsA K [82, 101, 97, 100, 101, 114]) (sOf [101, 105, 116, 104, 101, 114])) fd ∧ Binds K fd ["self"] [] := by
  obtain ⟨fd, F⟩ := c.def_ 23 (d := ⟨(sOf [82, 101, 97, 100, 101, 114], some (sOf [101, 105, 116, 104, 101, 114])), "either", "Reader.either", defArgs (mth 11 5), defBody (mth 11 5), defScope (mth 11 5), [], []⟩) rfl
  exact ⟨fd, F, FunD.bindsN (ps := ["self"]) F fun _ _ _ _ _ _ us hl => match us, hl with | [_], _ => rfl⟩
theorem u_Reader_both {K : PySem.W.Frag} (c : He.SaysD fa fn K) : ∃ fd, FunD K "both" "Reader.both" (defArgs (mth 11 6)) (defBody (mth 11 6)) (defScope (mth 11 6)) [] [] (He.ma K (clsA K [82, 101, 97, 100, 101, 114]) (sOf [98, 111, 116, 104])) fd ∧ Binds K fd ["self"] [] := by
  obtain ⟨fd, F⟩ := c.def_ 24 (d := ⟨(sOf [82, 101, 97, 100, 101, 114], some (sOf [98, 111, 116, 104])), "both", "Reader.both", defArgs (mth 11 6), defBody (mth 11 6), defScope (mth 11 6), [], []⟩) rfl
  exact ⟨fd, F, FunD.bindsN (ps := ["self"]) F fun _ _ _ _ _ _ us hl => match us, hl with | [_], _ => rfl⟩
theorem u_Reader_denied {K : PySem.W.Frag} (c : He.SaysD fa fn K) : ∃ fd, FunD K "denied" "Reader.denied" (defArgs (mth 11 7)) (defBody (mth 11 7)) (defScope (mth 11 7)) [] [] (He.ma K (clsA K [82, 101, 97, 100, 101, 114]) (sOf [100, 101, 110, 105, 101, 100])) fd ∧ Binds K fd ["self"] [] := by
  obtain ⟨fd, F⟩ := c.def_ 25 (d := ⟨(sOf [82, 101, 97, 100, 101, 114], some (sOf [100, 101, 110, 105, 101, 100])), "denied", "Reader.denied", defArgs (mth 11 7), defBody (mth 11 7), defScope (mth 11 7), [], []⟩) rfl
  exact ⟨fd, F, FunD.bindsN (ps := ["self"]) F fun _ _ _ _ _ _ us hl => match us, hl with | [_], _ => rfl⟩
theorem u_Reader_pair {K : PySem.W.Frag} (c : He.SaysD fa fn K) : ∃ fd, FunD K "pair" "Reader.pair" (defArgs (mth 11 8)) (defBody (mth 11 8)) (defScope (mth 11 8)) [] [] (He.ma K (clsA K [82, 101, 97, 100, 101, 114]) (sOf [112, 97, 105, 114])) fd ∧ Binds K fd ["self", "first", "second"] [] := by
  obtain ⟨fd, F⟩ := c.def_ 26 (d := ⟨(sOf [82, 101, 97, 100, 101, 114], some (sOf [112, 97, 105, 114])), "pair", "Reader.pair", defArgs (mth 11 8), defBody (mth 11 8), defScope (mth 11 8), [], []⟩) rfl
  exact ⟨fd, F, FunD.bindsN (ps := ["self", "first", "second"]) F fun _ _ _ _ _ _ us hl => match us, hl with | [_, _, _], _ => rfl⟩
theorem u_Reader_single {K : PySem.W.Frag} (c : He.SaysD fa fn K) : ∃ fd, FunD K "single" "Reader.single" (defArgs (mth 11 9)) (defBody (mth 11 9)) (defScope (mth 11 9)) [] [] (He.ma K (clsA K [82, 101, 97, 100, 101, 114]) (sOf [115, 105, 110, 103, 108, 101])) fd ∧ Binds K fd ["self"] [] := by
  obtain ⟨fd, F⟩ := c.def_ 27 (d := ⟨(sOf [82, 101, 97, 100, 101, 114], some (sOf [115, 105, 110, 103, 108, 101])), "single", "Reader.single", defArgs (mth 11 9), defBody (mth 11 9), defScope (mth 11 9), [], []⟩) rfl
  exact ⟨fd, F, FunD.bindsN (ps := ["self"]) F fun _ _ _ _ _ _ us hl => match us, hl with | [_], _ => rfl⟩
theorem u_Reader_simple {K : PySem.W.Frag} (c : He.SaysD fa fn K) : ∃ fd, FunD K "simple" "Reader.simple" (defArgs (mth 11 10)) (defBody (mth 11 10)) (defScope (mth 11 10)) [] [] (He.ma K (clsA K [82, 101, 97, 100, 101, 114]) (sOf [115, 105, 109, 112, 108, 101])) fd ∧ Binds K fd ["self"] [] := by
  obtain ⟨fd, F⟩ := c.def_ 28 (d := ⟨(sOf [82, 101, 97, 100, 101, 114], some (sOf [115, 105, 109, 112, 108, 101])), "simple", "Reader.simple", defArgs (mth 11 10), defBody (mth 11 10), defScope (mth 11 10), [], []⟩) rfl
  exact ⟨fd, F, FunD.bindsN (ps := ["self"]) F fun _ _ _ _ _ _ us hl => match us, hl with | [_], _ => rfl⟩
theorem u_SyntaxProblem_init {K : PySem.W.Frag} (c : He.SaysD fa fn K) : ∃ fd, FunD K "__init__" "SyntaxProblem.__init__" (defArgs (mth 2 0)) (defBody (mth 2 0)) (defScope (mth 2 0)) [] [] (He.ma K (clsA K [83, 121, 110, 116, 97, 120, 80, 114, 111, 98, 108, 101, 109]) (sOf [95, 95, 105, 110, 105, 116, 95, 95])) fd ∧ Binds K fd ["self", "start"] [] := by
  obtain ⟨fd, F⟩ := c.def_ 29 (d := ⟨(sOf [83, 121, 110, 116, 97, 120, 80, 114, 111, 98, 108, 101, 109], some (sOf [95, 95, 105, 110, 105, 116, 95, 95])), "__init__", "SyntaxProblem.__init__", defArgs (mth 2 0), defBody (mth 2 0), defScope (mth 2 0), [], []⟩) rfl
  exact ⟨fd, F, FunD.bindsN (ps := ["self", "start"]) F fun _ _ _ _ _ _ us hl => match us, hl with | [_, _], _ => rfl⟩
theorem fc_of {K : PySem.W.Frag} {mg : Str → Option Value} {base : Heap} (X : K.In base) (G : base.Ns mainGlobals mg) (c : He.SaysD fa fn K) (c2 : ex K = true) : Fc K mg := ⟨He.free_ok X G (c.fact 18 (f := .free "abs") rfl),
  He.free_ok X G (c.fact 19 (f := .free "bool") rfl),
  He.free_ok X G (c.fact 20 (f := .free "dict") rfl),
  He.free_ok X G (c.fact 21 (f := .free "int") rfl),
  He.free_ok X G (c.fact 22 (f := .free "isinstance") rfl),
  He.free_ok X G (c.fact 23 (f := .free "len") rfl),
  He.free_ok X G (c.fact 24 (f := .free "list") rfl),
  He.free_ok X G (c.fact 25 (f := .free "range") rfl),
  He.free_ok X G (c.fact 26 (f := .free "str") rfl),
  He.free_ok X G (c.fact 27 (f := .free "tuple") rfl),
  He.str_ok X G (c.fact 28 (f := .str "DIGITS" (sOf [48, 49, 50, 51, 52, 53, 54, 55, 56, 57])) rfl),
  He.str_ok X G (c.fact 29 (f := .str "LETTERS" (sOf [97, 98, 99, 100, 101, 102, 103, 104, 105, 106, 107, 108, 109, 110, 111, 112, 113, 114, 115, 116, 117, 118, 119, 120, 121, 122, 65, 66, 67, 68, 69, 70, 71, 72, 73, 74, 75, 76, 77, 78, 79, 80, 81, 82, 83, 84, 85, 86, 87, 88, 89, 90])) rfl),
  He.str_ok X G (c.fact 30 (f := .str "SIGNS" (sOf [40, 41, 44, 58])) rfl),
  ⟨He.glo_ok X G (c.fact 31 (f := .glo "WORDS") rfl), fun g H => GH.tup_txt _ (ex_at c2 0) g H⟩,
  GH.oexB_ok (ex_at c2 1),
  He.meth_ok (c.fact 32 (f := .meth (sOf [83, 121, 110, 116, 97, 120, 80, 114, 111, 98, 108, 101, 109]) (sOf [95, 95, 105, 110, 105, 116, 95, 95])) rfl),
  He.noat_ok (c.fact 33 (f := .noat (sOf [83, 121, 110, 116, 97, 120, 80, 114, 111, 98, 108, 101, 109]) (sOf [115, 116, 97, 114, 116])) rfl),
  He.exm_ok (c.fact 34 (f := .exm (sOf [83, 121, 110, 116, 97, 120, 80, 114, 111, 98, 108, 101, 109]) (sOf [83, 121, 110, 116, 97, 120, 80, 114, 111, 98, 108, 101, 109]) true) rfl),
  xfB_ok (ex_at c2 2),
  He.glo_ok X G (c.fact 35 (f := .glo (sOf [83, 121, 110, 116, 97, 120, 80, 114, 111, 98, 108, 101, 109])) rfl),
  He.cls_ok (c.fact 36 (f := .cls (sOf [82, 101, 97, 100, 101, 114])) rfl),
  He.mkr_ok (c.fact 37 (f := .mkr (sOf [82, 101, 97, 100, 101, 114])) rfl),
  He.glo_ok X G (c.fact 38 (f := .glo (sOf [82, 101, 97, 100, 101, 114])) rfl),
  He.noat_ok (c.fact 39 (f := .noat (sOf [82, 101, 97, 100, 101, 114]) (sOf [97, 116])) rfl),
  He.noat_ok (c.fact 40 (f := .noat (sOf [82, 101, 97, 100, 101, 114]) (sOf [102, 111, 117, 110, 100])) rfl)⟩
theorem ioo_SyntaxProblem {P : Program} {w : World} {K : PySem.W.Frag} {mg : Str → Option Value} {base hh : Heap} (X : K.In hh) (G : hh.Ns mainGlobals mg) (c : He.SaysD fa fn K) (c2 : ex K = true) : InitOk P w K mg base (clsA K [83, 121, 110, 116, 97, 120, 80, 114, 111, 98, 108, 101, 109]) (He.ma K (clsA K [83, 121, 110, 116, 97, 120, 80, 114, 111, 98, 108, 101, 109]) (sOf [95, 95, 105, 110, 105, 116, 95, 95])) ["self", "start"] "start" := by
  have fc := fc_of X G c c2
  obtain ⟨fd, u, b⟩ := u_SyntaxProblem_init c
  exact ⟨fd, io_SyntaxProblem_init fc u, b⟩
theorem all_of {P : Program} {w : World} {K : PySem.W.Frag} {mg : Str → Option Value} {base hh : Heap} (X : K.In hh) (G : hh.Ns mainGlobals mg) (c : He.SaysD fa fn K) (c2 : ex K = true) : ∀ k, AllK P w K mg base sig (2 * k + 1) (lev D k) ∧ AllM P w K mg base msig 18 (2 * k + 1) (lev D k) := by
  have fc := fc_of X G c c2
  obtain ⟨fd0, u0, b0⟩ := u_is_set_name c
  have g0 := He.glo_ok X G (c.fact 0 (f := .glo "is_set_name") rfl)
  obtain ⟨fd1, u1, b1⟩ := u_tokens c
  have g1 := He.glo_ok X G (c.fact 1 (f := .glo "tokens") rfl)
  obtain ⟨fd2, u2, b2⟩ := u_read_formula c
  have g2 := He.glo_ok X G (c.fact 2 (f := .glo "read_formula") rfl)
  obtain ⟨fd3, u3, b3⟩ := u__law_tape c
  have g3 := He.glo_ok X G (c.fact 3 (f := .glo "_law_tape") rfl)
  obtain ⟨fd4, u4, b4⟩ := u__law_take c
  have g4 := He.glo_ok X G (c.fact 4 (f := .glo "_law_take") rfl)
  obtain ⟨fd5, u5, b5⟩ := u__law_is_integer c
  have g5 := He.glo_ok X G (c.fact 5 (f := .glo "_law_is_integer") rfl)
  obtain ⟨fd6, u6, b6⟩ := u__law_same_items c
  have g6 := He.glo_ok X G (c.fact 6 (f := .glo "_law_same_items") rfl)
  obtain ⟨fd7, u7, b7⟩ := u__law_same c
  have g7 := He.glo_ok X G (c.fact 7 (f := .glo "_law_same") rfl)
  obtain ⟨fd8, u8, b8⟩ := u__law_atom c
  have g8 := He.glo_ok X G (c.fact 8 (f := .glo "_law_atom") rfl)
  obtain ⟨fd9, u9, b9⟩ := u__law_matrix c
  have g9 := He.glo_ok X G (c.fact 9 (f := .glo "_law_matrix") rfl)
  obtain ⟨fd10, u10, b10⟩ := u__law_put c
  have g10 := He.glo_ok X G (c.fact 10 (f := .glo "_law_put") rfl)
  obtain ⟨fd11, u11, b11⟩ := u__law_put_all c
  have g11 := He.glo_ok X G (c.fact 11 (f := .glo "_law_put_all") rfl)
  obtain ⟨fd12, u12, b12⟩ := u__law_put_formula c
  have g12 := He.glo_ok X G (c.fact 12 (f := .glo "_law_put_formula") rfl)
  obtain ⟨fd13, u13, b13⟩ := u__law_read c
  have g13 := He.glo_ok X G (c.fact 13 (f := .glo "_law_read") rfl)
  obtain ⟨fd14, u14, b14⟩ := u__law_scraps c
  have g14 := He.glo_ok X G (c.fact 14 (f := .glo "_law_scraps") rfl)
  obtain ⟨fd15, u15, b15⟩ := u__law_tokens c
  have g15 := He.glo_ok X G (c.fact 15 (f := .glo "_law_tokens") rfl)
  obtain ⟨fd16, u16, b16⟩ := u__law_typed_right c
  have g16 := He.glo_ok X G (c.fact 16 (f := .glo "_law_typed_right") rfl)
  obtain ⟨fd17, u17, b17⟩ := u_law c
  have g17 := He.glo_ok X G (c.fact 17 (f := .glo "law") rfl)
  obtain ⟨fd18, u18, b18⟩ := u_Reader_init c
  have g18 := He.meth_ok (c.fact 41 (f := .meth (sOf [82, 101, 97, 100, 101, 114]) (sOf [95, 95, 105, 110, 105, 116, 95, 95])) rfl)
  obtain ⟨fd19, u19, b19⟩ := u_Reader_need c
  have g19 := He.meth_ok (c.fact 42 (f := .meth (sOf [82, 101, 97, 100, 101, 114]) (sOf [110, 101, 101, 100])) rfl)
  obtain ⟨fd20, u20, b20⟩ := u_Reader_fixed c
  have g20 := He.meth_ok (c.fact 43 (f := .meth (sOf [82, 101, 97, 100, 101, 114]) (sOf [102, 105, 120, 101, 100])) rfl)
  obtain ⟨fd21, u21, b21⟩ := u_Reader_take c
  have g21 := He.meth_ok (c.fact 44 (f := .meth (sOf [82, 101, 97, 100, 101, 114]) (sOf [116, 97, 107, 101])) rfl)
  obtain ⟨fd22, u22, b22⟩ := u_Reader_name c
  have g22 := He.meth_ok (c.fact 45 (f := .meth (sOf [82, 101, 97, 100, 101, 114]) (sOf [110, 97, 109, 101])) rfl)
  obtain ⟨fd23, u23, b23⟩ := u_Reader_either c
  have g23 := He.meth_ok (c.fact 46 (f := .meth (sOf [82, 101, 97, 100, 101, 114]) (sOf [101, 105, 116, 104, 101, 114])) rfl)
  obtain ⟨fd24, u24, b24⟩ := u_Reader_both c
  have g24 := He.meth_ok (c.fact 47 (f := .meth (sOf [82, 101, 97, 100, 101, 114]) (sOf [98, 111, 116, 104])) rfl)
  obtain ⟨fd25, u25, b25⟩ := u_Reader_denied c
  have g25 := He.meth_ok (c.fact 48 (f := .meth (sOf [82, 101, 97, 100, 101, 114]) (sOf [100, 101, 110, 105, 101, 100])) rfl)
  obtain ⟨fd26, u26, b26⟩ := u_Reader_pair c
  have g26 := He.meth_ok (c.fact 49 (f := .meth (sOf [82, 101, 97, 100, 101, 114]) (sOf [112, 97, 105, 114])) rfl)
  obtain ⟨fd27, u27, b27⟩ := u_Reader_single c
  have g27 := He.meth_ok (c.fact 50 (f := .meth (sOf [82, 101, 97, 100, 101, 114]) (sOf [115, 105, 110, 103, 108, 101])) rfl)
  obtain ⟨fd28, u28, b28⟩ := u_Reader_simple c
  have g28 := He.meth_ok (c.fact 51 (f := .meth (sOf [82, 101, 97, 100, 101, 114]) (sOf [115, 105, 109, 112, 108, 101])) rfl)
  have IO_SyntaxProblem : InitOk P w K mg base (clsA K [83, 121, 110, 116, 97, 120, 80, 114, 111, 98, 108, 101, 109]) (He.ma K (clsA K [83, 121, 110, 116, 97, 120, 80, 114, 111, 98, 108, 101, 109]) (sOf [95, 95, 105, 110, 105, 116, 95, 95])) ["self", "start"] "start" := ioo_SyntaxProblem X G c c2
  refine levels3 ?_ ?_ ?_
  · intro j x ps e
    match j, e with
    | 0, e => exact (by have e : some (("is_set_name" : Str), (["name"] : List Str)) = some (x, ps) := e; cases e; exact ⟨g0, u0.kp, fd0, b0⟩)
    | 1, e => exact (by have e : some (("tokens" : Str), (["text"] : List Str)) = some (x, ps) := e; cases e; exact ⟨g1, u1.kp, fd1, b1⟩)
    | 2, e => exact (by have e : some (("read_formula" : Str), (["text"] : List Str)) = some (x, ps) := e; cases e; exact ⟨g2, u2.kp, fd2, b2⟩)
    | 3, e => exact (by have e : some (("_law_tape" : Str), (["script"] : List Str)) = some (x, ps) := e; cases e; exact ⟨g3, u3.kp, fd3, b3⟩)
    | 4, e => exact (by have e : some (("_law_take" : Str), (["tape", "many"] : List Str)) = some (x, ps) := e; cases e; exact ⟨g4, u4.kp, fd4, b4⟩)
    | 5, e => exact (by have e : some (("_law_is_integer" : Str), (["actual"] : List Str)) = some (x, ps) := e; cases e; exact ⟨g5, u5.kp, fd5, b5⟩)
    | 6, e => exact (by have e : some (("_law_same_items" : Str), (["actual", "expected"] : List Str)) = some (x, ps) := e; cases e; exact ⟨g6, u6.kp, fd6, b6⟩)
    | 7, e => exact (by have e : some (("_law_same" : Str), (["actual", "expected"] : List Str)) = some (x, ps) := e; cases e; exact ⟨g7, u7.kp, fd7, b7⟩)
    | 8, e => exact (by have e : some (("_law_atom" : Str), (["tape", "kind", "singles", "sets"] : List Str)) = some (x, ps) := e; cases e; exact ⟨g8, u8.kp, fd8, b8⟩)
    | 9, e => exact (by have e : some (("_law_matrix" : Str), (["tape", "kind", "singles", "sets", "depth"] : List Str)) = some (x, ps) := e; cases e; exact ⟨g9, u9.kp, fd9, b9⟩)
    | 10, e => exact (by have e : some (("_law_put" : Str), (["tape", "out", "string"] : List Str)) = some (x, ps) := e; cases e; exact ⟨g10, u10.kp, fd10, b10⟩)
    | 11, e => exact (by have e : some (("_law_put_all" : Str), (["tape", "out", "strings"] : List Str)) = some (x, ps) := e; cases e; exact ⟨g11, u11.kp, fd11, b11⟩)
    | 12, e => exact (by have e : some (("_law_put_formula" : Str), (["tape", "out", "formula", "least"] : List Str)) = some (x, ps) := e; cases e; exact ⟨g12, u12.kp, fd12, b12⟩)
    | 13, e => exact (by have e : some (("_law_read" : Str), (["text"] : List Str)) = some (x, ps) := e; cases e; exact ⟨g13, u13.kp, fd13, b13⟩)
    | 14, e => exact (by have e : some (("_law_scraps" : Str), (["tape"] : List Str)) = some (x, ps) := e; cases e; exact ⟨g14, u14.kp, fd14, b14⟩)
    | 15, e => exact (by have e : some (("_law_tokens" : Str), (["text"] : List Str)) = some (x, ps) := e; cases e; exact ⟨g15, u15.kp, fd15, b15⟩)
    | 16, e => exact (by have e : some (("_law_typed_right" : Str), (["tape"] : List Str)) = some (x, ps) := e; cases e; exact ⟨g16, u16.kp, fd16, b16⟩)
    | 17, e => exact (by have e : some (("law" : Str), (["script"] : List Str)) = some (x, ps) := e; cases e; exact ⟨g17, u17.kp, fd17, b17⟩)
    | n + 18, e => exact (by have e : (none : Option (Str × List Str)) = some (x, ps) := e; cases e)
  · intro j c1 m1 ps e
    match j, e with
    | 0, e => exact (by have e : some (([82, 101, 97, 100, 101, 114] : Tx), ([95, 95, 105, 110, 105, 116, 95, 95] : Tx), (["self", "text"] : List Str)) = some (c1, m1, ps) := e; cases e; exact ⟨g18, fd18, b18⟩)
    | 1, e => exact (by have e : some (([82, 101, 97, 100, 101, 114] : Tx), ([110, 101, 101, 100] : Tx), (["self", "condition"] : List Str)) = some (c1, m1, ps) := e; cases e; exact ⟨g19, fd19, b19⟩)
    | 2, e => exact (by have e : some (([82, 101, 97, 100, 101, 114] : Tx), ([102, 105, 120, 101, 100] : Tx), (["self"] : List Str)) = some (c1, m1, ps) := e; cases e; exact ⟨g20, fd20, b20⟩)
    | 3, e => exact (by have e : some (([82, 101, 97, 100, 101, 114] : Tx), ([116, 97, 107, 101] : Tx), (["self", "expected"] : List Str)) = some (c1, m1, ps) := e; cases e; exact ⟨g21, fd21, b21⟩)
    | 4, e => exact (by have e : some (([82, 101, 97, 100, 101, 114] : Tx), ([110, 97, 109, 101] : Tx), (["self", "sort"] : List Str)) = some (c1, m1, ps) := e; cases e; exact ⟨g22, fd22, b22⟩)
    | 5, e => exact (by have e : some (([82, 101, 97, 100, 101, 114] : Tx), ([101, 105, 116, 104, 101, 114] : Tx), (["self"] : List Str)) = some (c1, m1, ps) := e; cases e; exact ⟨g23, fd23, b23⟩)
    | 6, e => exact (by have e : some (([82, 101, 97, 100, 101, 114] : Tx), ([98, 111, 116, 104] : Tx), (["self"] : List Str)) = some (c1, m1, ps) := e; cases e; exact ⟨g24, fd24, b24⟩)
    | 7, e => exact (by have e : some (([82, 101, 97, 100, 101, 114] : Tx), ([100, 101, 110, 105, 101, 100] : Tx), (["self"] : List Str)) = some (c1, m1, ps) := e; cases e; exact ⟨g25, fd25, b25⟩)
    | 8, e => exact (by have e : some (([82, 101, 97, 100, 101, 114] : Tx), ([112, 97, 105, 114] : Tx), (["self", "first", "second"] : List Str)) = some (c1, m1, ps) := e; cases e; exact ⟨g26, fd26, b26⟩)
    | 9, e => exact (by have e : some (([82, 101, 97, 100, 101, 114] : Tx), ([115, 105, 110, 103, 108, 101] : Tx), (["self"] : List Str)) = some (c1, m1, ps) := e; cases e; exact ⟨g27, fd27, b27⟩)
    | 10, e => exact (by have e : some (([82, 101, 97, 100, 101, 114] : Tx), ([115, 105, 109, 112, 108, 101] : Tx), (["self"] : List Str)) = some (c1, m1, ps) := e; cases e; exact ⟨g28, fd28, b28⟩)
    | n + 11, e => exact (by have e : (none : Option (Tx × Tx × List Str)) = some (c1, m1, ps) := e; cases e)
  · intro k Γ k1 F M
    refine ⟨?_, ?_⟩
    · intro j x ps e
      match j, e with
      | 0, e => exact (by have e : some (("is_set_name" : Str), (["name"] : List Str)) = some (x, ps) := e; cases e; exact ⟨⟨fd0, k_is_set_name F M k1 IO_SyntaxProblem fc u0, b0⟩, g0, u0.kp⟩)
      | 1, e => exact (by have e : some (("tokens" : Str), (["text"] : List Str)) = some (x, ps) := e; cases e; exact ⟨⟨fd1, k_tokens F M k1 IO_SyntaxProblem fc u1, b1⟩, g1, u1.kp⟩)
      | 2, e => exact (by have e : some (("read_formula" : Str), (["text"] : List Str)) = some (x, ps) := e; cases e; exact ⟨⟨fd2, k_read_formula F M k1 IO_SyntaxProblem fc u2, b2⟩, g2, u2.kp⟩)
      | 3, e => exact (by have e : some (("_law_tape" : Str), (["script"] : List Str)) = some (x, ps) := e; cases e; exact ⟨⟨fd3, k__law_tape F M k1 IO_SyntaxProblem fc u3, b3⟩, g3, u3.kp⟩)
      | 4, e => exact (by have e : some (("_law_take" : Str), (["tape", "many"] : List Str)) = some (x, ps) := e; cases e; exact ⟨⟨fd4, k__law_take F M k1 IO_SyntaxProblem fc u4, b4⟩, g4, u4.kp⟩)
      | 5, e => exact (by have e : some (("_law_is_integer" : Str), (["actual"] : List Str)) = some (x, ps) := e; cases e; exact ⟨⟨fd5, k__law_is_integer F M k1 IO_SyntaxProblem fc u5, b5⟩, g5, u5.kp⟩)
      | 6, e => exact (by have e : some (("_law_same_items" : Str), (["actual", "expected"] : List Str)) = some (x, ps) := e; cases e; exact ⟨⟨fd6, k__law_same_items F M k1 IO_SyntaxProblem fc u6, b6⟩, g6, u6.kp⟩)
      | 7, e => exact (by have e : some (("_law_same" : Str), (["actual", "expected"] : List Str)) = some (x, ps) := e; cases e; exact ⟨⟨fd7, k__law_same F M k1 IO_SyntaxProblem fc u7, b7⟩, g7, u7.kp⟩)
      | 8, e => exact (by have e : some (("_law_atom" : Str), (["tape", "kind", "singles", "sets"] : List Str)) = some (x, ps) := e; cases e; exact ⟨⟨fd8, k__law_atom F M k1 IO_SyntaxProblem fc u8, b8⟩, g8, u8.kp⟩)
      | 9, e => exact (by have e : some (("_law_matrix" : Str), (["tape", "kind", "singles", "sets", "depth"] : List Str)) = some (x, ps) := e; cases e; exact ⟨⟨fd9, k__law_matrix F M k1 IO_SyntaxProblem fc u9, b9⟩, g9, u9.kp⟩)
      | 10, e => exact (by have e : some (("_law_put" : Str), (["tape", "out", "string"] : List Str)) = some (x, ps) := e; cases e; exact ⟨⟨fd10, k__law_put F M k1 IO_SyntaxProblem fc u10, b10⟩, g10, u10.kp⟩)
      | 11, e => exact (by have e : some (("_law_put_all" : Str), (["tape", "out", "strings"] : List Str)) = some (x, ps) := e; cases e; exact ⟨⟨fd11, k__law_put_all F M k1 IO_SyntaxProblem fc u11, b11⟩, g11, u11.kp⟩)
      | 12, e => exact (by have e : some (("_law_put_formula" : Str), (["tape", "out", "formula", "least"] : List Str)) = some (x, ps) := e; cases e; exact ⟨⟨fd12, k__law_put_formula F M k1 IO_SyntaxProblem fc u12, b12⟩, g12, u12.kp⟩)
      | 13, e => exact (by have e : some (("_law_read" : Str), (["text"] : List Str)) = some (x, ps) := e; cases e; exact ⟨⟨fd13, k__law_read F M k1 IO_SyntaxProblem fc u13, b13⟩, g13, u13.kp⟩)
      | 14, e => exact (by have e : some (("_law_scraps" : Str), (["tape"] : List Str)) = some (x, ps) := e; cases e; exact ⟨⟨fd14, k__law_scraps F M k1 IO_SyntaxProblem fc u14, b14⟩, g14, u14.kp⟩)
      | 15, e => exact (by have e : some (("_law_tokens" : Str), (["text"] : List Str)) = some (x, ps) := e; cases e; exact ⟨⟨fd15, k__law_tokens F M k1 IO_SyntaxProblem fc u15, b15⟩, g15, u15.kp⟩)
      | 16, e => exact (by have e : some (("_law_typed_right" : Str), (["tape"] : List Str)) = some (x, ps) := e; cases e; exact ⟨⟨fd16, k__law_typed_right F M k1 IO_SyntaxProblem fc u16, b16⟩, g16, u16.kp⟩)
      | 17, e => exact (by have e : some (("law" : Str), (["script"] : List Str)) = some (x, ps) := e; cases e; exact ⟨⟨fd17, k_law F M k1 IO_SyntaxProblem fc u17, b17⟩, g17, u17.kp⟩)
      | n + 18, e => exact (by have e : (none : Option (Str × List Str)) = some (x, ps) := e; cases e)
    · intro j c1 m1 ps e
      match j, e with
      | 0, e => exact (by have e : some (([82, 101, 97, 100, 101, 114] : Tx), ([95, 95, 105, 110, 105, 116, 95, 95] : Tx), (["self", "text"] : List Str)) = some (c1, m1, ps) := e; cases e; exact ⟨⟨fd18, k_Reader_init F M k1 IO_SyntaxProblem fc u18, b18⟩, g18⟩)
      | 1, e => exact (by have e : some (([82, 101, 97, 100, 101, 114] : Tx), ([110, 101, 101, 100] : Tx), (["self", "condition"] : List Str)) = some (c1, m1, ps) := e; cases e; exact ⟨⟨fd19, k_Reader_need F M k1 IO_SyntaxProblem fc u19, b19⟩, g19⟩)
      | 2, e => exact (by have e : some (([82, 101, 97, 100, 101, 114] : Tx), ([102, 105, 120, 101, 100] : Tx), (["self"] : List Str)) = some (c1, m1, ps) := e; cases e; exact ⟨⟨fd20, k_Reader_fixed F M k1 IO_SyntaxProblem fc u20, b20⟩, g20⟩)
      | 3, e => exact (by have e : some (([82, 101, 97, 100, 101, 114] : Tx), ([116, 97, 107, 101] : Tx), (["self", "expected"] : List Str)) = some (c1, m1, ps) := e; cases e; exact ⟨⟨fd21, k_Reader_take F M k1 IO_SyntaxProblem fc u21, b21⟩, g21⟩)
      | 4, e => exact (by have e : some (([82, 101, 97, 100, 101, 114] : Tx), ([110, 97, 109, 101] : Tx), (["self", "sort"] : List Str)) = some (c1, m1, ps) := e; cases e; exact ⟨⟨fd22, k_Reader_name F M k1 IO_SyntaxProblem fc u22, b22⟩, g22⟩)
      | 5, e => exact (by have e : some (([82, 101, 97, 100, 101, 114] : Tx), ([101, 105, 116, 104, 101, 114] : Tx), (["self"] : List Str)) = some (c1, m1, ps) := e; cases e; exact ⟨⟨fd23, k_Reader_either F M k1 IO_SyntaxProblem fc u23, b23⟩, g23⟩)
      | 6, e => exact (by have e : some (([82, 101, 97, 100, 101, 114] : Tx), ([98, 111, 116, 104] : Tx), (["self"] : List Str)) = some (c1, m1, ps) := e; cases e; exact ⟨⟨fd24, k_Reader_both F M k1 IO_SyntaxProblem fc u24, b24⟩, g24⟩)
      | 7, e => exact (by have e : some (([82, 101, 97, 100, 101, 114] : Tx), ([100, 101, 110, 105, 101, 100] : Tx), (["self"] : List Str)) = some (c1, m1, ps) := e; cases e; exact ⟨⟨fd25, k_Reader_denied F M k1 IO_SyntaxProblem fc u25, b25⟩, g25⟩)
      | 8, e => exact (by have e : some (([82, 101, 97, 100, 101, 114] : Tx), ([112, 97, 105, 114] : Tx), (["self", "first", "second"] : List Str)) = some (c1, m1, ps) := e; cases e; exact ⟨⟨fd26, k_Reader_pair F M k1 IO_SyntaxProblem fc u26, b26⟩, g26⟩)
      | 9, e => exact (by have e : some (([82, 101, 97, 100, 101, 114] : Tx), ([115, 105, 110, 103, 108, 101] : Tx), (["self"] : List Str)) = some (c1, m1, ps) := e; cases e; exact ⟨⟨fd27, k_Reader_single F M k1 IO_SyntaxProblem fc u27, b27⟩, g27⟩)
      | 10, e => exact (by have e : some (([82, 101, 97, 100, 101, 114] : Tx), ([115, 105, 109, 112, 108, 101] : Tx), (["self"] : List Str)) = some (c1, m1, ps) := e; cases e; exact ⟨⟨fd28, k_Reader_simple F M k1 IO_SyntaxProblem fc u28, b28⟩, g28⟩)
      | n + 11, e => exact (by have e : (none : Option (Tx × Tx × List Str)) = some (c1, m1, ps) := e; cases e)
theorem facts {P : Program} {w : World} {K : PySem.W.Frag} {h : Heap} {mg : Str → Option Value} {f : Addr} (X : K.In h) (G : h.Ns mainGlobals mg) (hfa : mg ("law" : Str) = some (.ref f)) (c : He.SaysD fa fn K) (c2 : ex K = true) :
    ∃ fd : FuncData, (∀ (s : Shared) (v : Value), BindsTo s fd ⟨[v], []⟩ [("script", v)]) ∧ ∀ base : Heap, K.In base → base.Ns mainGlobals mg → FnOk P w K mg base (CXA P) 231 f fd ["script"] (spG K (lev D 115 17) 1) := by
  obtain ⟨fd, F, b⟩ := u_law c
  have g := He.glo_ok X G (c.fact 17 (f := .glo "law") rfl)
  have e := hfa.symm.trans g
  cases e
  have b' := FunD.bindsA (ps := ["script"]) F fun _ _ _ _ _ _ us hl => match us, hl with | [_], _ => rfl
  refine ⟨fd, fun s v => b' s [v] rfl, fun base X2 G2 => ?_⟩
  exact fn_cxa (k_law (all_of X2 G2 c c2 114).1 (all_of X2 G2 c c2 114).2 (by omega) (ioo_SyntaxProblem X2 G2 c c2) (fc_of X2 G2 c c2) F)
end L05
open PySem PySem.W PySem.Calls PyProof.Rows
theorem PySem.Challenge.cw_grovehouse_k05_first_wrong_token_holds : PySem.Challenge.rw_grovehouse_k05_first_wrong_token.Holds := by
  w_on; o_law
  refine HandSHeadRun.head_any (r := OpenLaw.row PySem.Challenge.rw_grovehouse_k05_first_wrong_token) (q := view (OpenLaw.row PySem.Challenge.rw_grovehouse_k05_first_wrong_token).prog [28]) (H := L05.hk) (ob := L05.ob) (M := 3000) (loose := L05.nm) (d := HandSHeadRun.topDef (OpenLaw.row PySem.Challenge.rw_grovehouse_k05_first_wrong_token).prog 28) (kwd := []) L05.ob_eq
    (by kernel_rfl) (fun s => by kernel_rfl) L05.run (by kernel_rfl) (by kernel_rfl) (by kernel_rfl) (by rfl) (by first | assumption | decide +kernel) (by decide +kernel) ⟨rfl, rfl, rfl, rfl, rfl, by decide +kernel⟩ ?hw ?hc
  case hw => w_witness2
  case hc =>
    refine L2.walk_ofE (l := PySem.Challenge.rw_grovehouse_k05_first_wrong_token) (n := 63) (k := 231) (x := "script") (CX := GH.CXA (PySem.Challenge.rw_grovehouse_k05_first_wrong_token).prog) rfl (by decide) (by kernel_rfl) ⟨rfl, by decide, by decide⟩ ?F (fun H s e s' z => GH.cxa_none H s e s' z)
    intro w mg fa h Y G hmg0
    obtain ⟨K, KX, c⟩ := Y
    have hmg : mg ("law" : PySem.Str) = some (.ref fa) := by
      have e : (HandSHeadRun.topDef (OpenLaw.row PySem.Challenge.rw_grovehouse_k05_first_wrong_token).prog 28).name = ("law" : PySem.Str) := by kernel_rfl
      rw [← e]
      exact hmg0
    obtain ⟨fd, hb, hF⟩ := L05.facts (P := (PySem.Challenge.rw_grovehouse_k05_first_wrong_token).prog) (w := w) KX G hmg c.t.d c.more
    exact ⟨K, fd, _, KX, hb, fun H a ns hl hO hS => GH.sp_law hO hS (L05.law_true ns hl), hF⟩
