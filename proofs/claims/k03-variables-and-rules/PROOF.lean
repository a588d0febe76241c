import PyProof.Rows.All
import Wide.All
import OpenK.AllK
import Wide.FinOn
import HandS.ForMost
import HandS.Exc
import HandS.TryOnly
import HandS.ExcOwn
import HandS.WordsExc
import HandS.Defaults
import HandS.HeadHook1
import HandS.TupAny
import HandS.Style
import HandS.Conv
import HandS.Zip
import HandS.IsInst
import HandS.Flow
import HandS.DictTup
import HandS.TryMany
import HandS.Lambda
import HandS.DictComp
import HandS.Strs
import HandS.SetKeys
import HandS.SortKw
import HandS.ExcInit
import HandS.Nested
import HandS.Walk
import HandS.CallSlots
import PyProof.P3In
import PyProof.P3Eq
import KE.SortData
import HandS.HeadEnd
import KE.GoesMore
import HandS.Text
import HandS.Codes
import HandS.SetFor
import HandS.ExcIs
import HandS.HeadHook4
import PySem.Challenge.RW_grovehouse_k03_variables_and_rules
import KE.KStateDown
import Lean
import HandS.Base
import HandS.Call
import HandS.Ends
import HandS.More
import HandS.Words
import HandS.Head0
import HandS.Head1
import HandS.Head2
import HandS.HeadHook2
import HandS.HeadHook3
set_option Elab.async false
set_option linter.all false
set_option maxRecDepth 100000
set_option maxHeartbeats 1000000
/-! Values without a heap for tuples and for lists that nobody writes; a small heap of own objects; how both lie in the abstract heap of the hand layer. -/
set_option autoImplicit false
namespace GH
open PySem PySem.Spec PyProof.Rows L2

def sOf (x : List Nat) : Str := ⟨x.toArray⟩
theorem sOf_inj {x y : List Nat} (h : sOf x = sOf y) : x = y := by
  have := congrArg (fun s : Str => s.cps.toList) h
  simpa [sOf] using this
theorem sOf_len (x : List Nat) : (sOf x).length = x.length := by simp [sOf, Str.length]

/-- a value: tuples and unwritten lists as they are, an object of the small heap by its place -/
inductive Val where
  | non | bl (b : Bool) | int (i : Int) | str (s : List Nat)
  | tup (l : List Val) | lst (l : List Val) | fz (l : List Val) | ref (a : Nat)
  deriving Inhabited

/-- an object that may be written -/
inductive Ob where
  | lst (l : List Val)
  | dic (l : List (Val × Val))
  | ins (c : List Nat) (fs : List (List Nat × Val))
  deriving Inhabited
abbrev Hv := List Ob
abbrev Loc := List (Option Val)

/-- the ghost: where the small heap's objects lie; what else is being written -/
structure Gh where
  m : List Addr
  r : List Addr
def Gh.own (g : Gh) (a : Addr) : Prop := a ∈ g.m ∨ a ∈ g.r

/-- a list that nobody writes at all: the script, a list at the top -/
def FzL (K : PySem.W.Frag) (H : Hp) (a : Addr) (xs : List V) : Prop := (∃ o, H a = some (.frz o (.lst xs))) ∨
  ∃ (o : Obj) (its : Array Value) (n : Nat), K.lookup a = some o ∧ o.cls = .type "list" ∧ o.dict = none ∧ o.data = .seq its n ∧ its.size ≤ sizeLine ∧ Vals xs its.toList
theorem FzL.imp {K : PySem.W.Frag} {H H' : Hp} {a : Addr} {xs : List V} (s : FzL K H a xs) (f : ∀ o, H a = some (.frz o (.lst xs)) → H' a = some (.frz o (.lst xs))) : FzL K H' a xs := s.elim (fun ⟨o, e⟩ => .inl ⟨o, f o e⟩) .inr
theorem FzL.sq {K : PySem.W.Frag} {H : Hp} {a : Addr} {xs : List V} (s : FzL K H a xs) : SqL K H a xs := s.elim (fun ⟨o, e⟩ => .inl (.inr ⟨o, e⟩)) .inr
mutual
def VR (K : PySem.W.Frag) (g : Gh) (H : Hp) : Val → V → Prop
  | .non, x => x = .non
  | .bl b, x => x = .bl b
  | .int i, x => x = .int i
  | .str s, x => x = .str (sOf s)
  | .tup l, x => ∃ a xs, x = .ref a ∧ SqT K H a xs ∧ VRs K g H l xs
  | .lst l, x => ∃ a xs, x = .ref a ∧ ¬ g.own a ∧ H a = some (.lst xs) ∧ VRs K g H l xs
  | .fz l, x => ∃ a xs, x = .ref a ∧ FzL K H a xs ∧ VRs K g H l xs
  | .ref i, x => ∃ a, x = .ref a ∧ g.m[i]? = some a
def VRs (K : PySem.W.Frag) (g : Gh) (H : Hp) : List Val → List V → Prop
  | [], xs => xs = []
  | v :: l, xs => ∃ x r, xs = x :: r ∧ VR K g H v x ∧ VRs K g H l r
end

def keyOf : Val → Option Key
  | .int i => some (.inl i)
  | .str s => some (.inr (sOf s))
  | _ => none
/-- a class by its name -/
abbrev clsA (K : PySem.W.Frag) (c : List Nat) : Addr := He.ga K (sOf c)
/-- the fields, by name -/
def FR (K : PySem.W.Frag) (g : Gh) (H : Hp) (fs : List (List Nat × Val)) (gs : List (Str × V)) : Prop :=
  gs.map (·.1) = fs.map (fun p => sOf p.1) ∧ VRs K g H (fs.map (·.2)) (gs.map (·.2))
def DR (K : PySem.W.Frag) (g : Gh) (H : Hp) (l : List (Val × Val)) (ks : List (Key × V)) : Prop :=
  l.map (fun p => keyOf p.1) = ks.map (fun q => some q.1) ∧ VRs K g H (l.map (·.2)) (ks.map (·.2))
def OR (K : PySem.W.Frag) (g : Gh) (H : Hp) (a : Addr) : Ob → Prop
  | .lst l => ∃ xs, H a = some (.lst xs) ∧ VRs K g H l xs
  | .dic l => ∃ ks, H a = some (.dK ks) ∧ DR K g H l ks
  | .ins c fs => ∃ dx gs, H a = some (.ins (clsA K c) dx gs) ∧ FR K g H fs gs
structure HR (K : PySem.W.Frag) (g : Gh) (H : Hp) (h : Hv) : Prop where
  len : g.m.length = h.length
  nd : g.m.Nodup
  dis : ∀ a ∈ g.m, a ∉ g.r
  al : ∀ a ∈ g.r, ∃ o, H a = some o ∧ Mut (some o)
  obj : ∀ (i : Nat) o a, h[i]? = some o → g.m[i]? = some a → OR K g H a o
structure SR (K : PySem.W.Frag) (g : Gh) (H : Hp) (l : Loc) (σ : L2.St) : Prop where
  len : l.length = σ.length
  at_ : ∀ (i : Nat) v, l[i]? = some (some v) → ∃ x, σ[i]? = some (some x) ∧ VR K g H v x
/-- .. what is being written may have grown -/
structure ExtS (g : Gh) (H : Hp) (g' : Gh) (H' : Hp) : Prop where
  m : ∃ t, g'.m = g.m ++ t ∧ ∀ b ∈ t, H b = none
  r : ∃ u, g'.r = u ++ g.r ∧ ∀ b ∈ u, H b = none
  keep : ∀ b o, H b = some o → ¬ g.own b → H' b = some o
structure Ext (g : Gh) (H : Hp) (g' : Gh) (H' : Hp) : Prop where
  m : ∃ t, g'.m = g.m ++ t ∧ ∀ b ∈ t, H b = none
  r : g'.r = g.r
  keep : ∀ b o, H b = some o → b ∉ g.m → H' b = some o
  there : ∀ b o, H b = some o → ∃ o', H' b = some o'

section
variable {K : PySem.W.Frag} {g g' g'' : Gh} {H H' H'' : Hp} {h : Hv}
theorem Ext.refl : Ext g H g H := ⟨⟨[], by simp, by simp⟩, rfl, fun _ _ e _ => e, fun b o e => ⟨o, e⟩⟩
theorem Ext.trans (a : Ext g H g' H') (b : Ext g' H' g'' H'') : Ext g H g'' H'' := by
  obtain ⟨t, e1, n1⟩ := a.m
  obtain ⟨u, e2, n2⟩ := b.m
  refine ⟨⟨t ++ u, by rw [e2, e1, List.append_assoc], fun c hc => ?_⟩, b.r.trans a.r, fun c o e hn => ?_, fun c o e => ?_⟩
  · rcases List.mem_append.mp hc with hc | hc
    · exact n1 c hc
    · cases q : H c with
      | none => rfl
      | some o =>
        obtain ⟨o', e'⟩ := a.there c o q
        rw [n2 c hc] at e'
        cases e'
  · refine b.keep c o (a.keep c o e hn) ?_
    rw [e1]
    intro hc
    rcases List.mem_append.mp hc with hc | hc
    · exact hn hc
    · rw [n1 c hc] at e; cases e
  · obtain ⟨o', e'⟩ := a.there c o e
    exact b.there c o' e'
theorem HR.own_there (R : HR K g H h) {a : Addr} (ha : g.own a) : ∃ o, H a = some o := by
  rcases ha with ha | ha
  · obtain ⟨i, hi, e⟩ := List.getElem_of_mem ha
    have hi' : i < h.length := by rw [← R.len]; exact hi
    have q := R.obj i h[i] a (by simp [hi']) (by rw [← e]; simp [hi])
    cases ho : h[i] with
    | lst l => rw [ho] at q; obtain ⟨_, e, _⟩ := q; exact ⟨_, e⟩
    | dic l => rw [ho] at q; obtain ⟨_, e, _⟩ := q; exact ⟨_, e⟩
    | ins c f => rw [ho] at q; obtain ⟨_, _, e, _⟩ := q; exact ⟨_, e⟩
  · obtain ⟨o, e, _⟩ := R.al a ha
    exact ⟨_, e⟩
theorem HR.fresh (R : HR K g H h) {a : Addr} (ha : H a = none) : ¬ g.own a := fun q => by
  obtain ⟨o, e⟩ := R.own_there q
  rw [ha] at e; cases e
/-- what is owned is no tuple and not locked -/
theorem HR.kind (R : HR K g H h) {a : Addr} (ha : a ∈ g.m) : (∃ xs, H a = some (.lst xs)) ∨ (∃ ks, H a = some (.dK ks)) ∨ ∃ C dx gs, H a = some (.ins C dx gs) := by
  obtain ⟨i, hi, e⟩ := List.getElem_of_mem ha
  have hi' : i < h.length := by rw [← R.len]; exact hi
  have q := R.obj i h[i] a (by simp [hi']) (by rw [← e]; simp [hi])
  cases ho : h[i] with
  | lst l => rw [ho] at q; obtain ⟨_, e, _⟩ := q; exact .inl ⟨_, e⟩
  | dic l => rw [ho] at q; obtain ⟨_, e, _⟩ := q; exact .inr (.inl ⟨_, e⟩)
  | ins c f => rw [ho] at q; obtain ⟨_, _, e, _⟩ := q; exact .inr (.inr ⟨_, _, _, e⟩)
theorem HR.not_tup (R : HR K g H h) {a : Addr} {xs : List V} (e : Rd H a (.tup xs)) : a ∉ g.m := fun ha => by
  rcases R.kind ha with ⟨_, q⟩ | ⟨_, q⟩ | ⟨_, _, _, q⟩ <;> rcases e with e | ⟨_, e⟩ <;> rw [q] at e <;> cases e
theorem Ext.s (E : Ext g H g' H') : ExtS g H g' H' := ⟨E.m, ⟨[], by rw [E.r]; rfl, by simp⟩, fun b o e hn => E.keep b o e fun z => hn (.inl z)⟩
theorem HR.not_own (R : HR K g H h) {a : Addr} {o : HO} (e : H a = some o) (n : ¬ Mut (some o)) : ¬ g.own a := fun ha => by
  rcases ha with ha | ha
  · rcases R.kind ha with ⟨_, q⟩ | ⟨_, q⟩ | ⟨_, _, _, q⟩ <;> rw [q] at e <;> cases e <;> exact n trivial
  · obtain ⟨o', e', m⟩ := R.al a ha
    rw [e] at e'; cases e'
    exact n m
theorem HR.tup_own (R : HR K g H h) {a : Addr} {xs : List V} (e : Rd H a (.tup xs)) : ¬ g.own a := by
  rcases e with e | ⟨_, e⟩
  · exact R.not_own e (fun z => z)
  · exact R.not_own e (fun z => z)
theorem ExtS.rd (E : ExtS g H g' H') {a : Addr} {u : HO} (ha : ¬ g.own a) (e : Rd H a u) : Rd H' a u := by
  rcases e with e | ⟨o, e⟩
  · exact .inl (E.keep _ _ e ha)
  · exact .inr ⟨o, E.keep _ _ e ha⟩
theorem ExtS.nown (E : ExtS g H g' H') {a : Addr} {o : HO} (ha : ¬ g.own a) (e : H a = some o) : ¬ g'.own a := fun q => by
  obtain ⟨t, em, n⟩ := E.m
  obtain ⟨u, er, n2⟩ := E.r
  rcases q with q | q
  · rw [em] at q
    rcases List.mem_append.mp q with q | q
    · exact ha (.inl q)
    · rw [n a q] at e; cases e
  · rw [er] at q
    rcases List.mem_append.mp q with q | q
    · rw [n2 a q] at e; cases e
    · exact ha (.inr q)
theorem Ext.rd (E : Ext g H g' H') {a : Addr} {u : HO} (ha : a ∉ g.m) (e : Rd H a u) : Rd H' a u := by
  rcases e with e | ⟨o, e⟩
  · exact .inl (E.keep _ _ e ha)
  · exact .inr ⟨o, E.keep _ _ e ha⟩
theorem Ext.nown (E : Ext g H g' H') {a : Addr} {o : HO} (ha : ¬ g.own a) (e : H a = some o) : ¬ g'.own a := fun q => by
  obtain ⟨t, em, n⟩ := E.m
  rcases q with q | q
  · rw [em] at q
    rcases List.mem_append.mp q with q | q
    · exact ha (.inl q)
    · rw [n a q] at e; cases e
  · rw [E.r] at q
    exact ha (.inr q)
theorem Rd.some {a : Addr} {u : HO} (e : Rd H a u) : ∃ o, H a = some o := by
  rcases e with e | ⟨o, e⟩
  · exact ⟨_, e⟩
  · exact ⟨_, e⟩
mutual
theorem VR.extS (R : HR K g H h) (E : ExtS g H g' H') : ∀ {v : Val} {x : V}, VR K g H v x → VR K g' H' v x
  | .non, x, q => by simpa only [VR] using q
  | .bl b, x, q => by simpa only [VR] using q
  | .int i, x, q => by simpa only [VR] using q
  | .str s, x, q => by simpa only [VR] using q
  | .tup l, x, q => by
    simp only [VR] at q ⊢
    obtain ⟨a, xs, e, s, r⟩ := q
    refine ⟨a, xs, e, ?_, VRs.extS R E r⟩
    rcases s with s | s
    · exact .inl (E.rd (R.tup_own s) s)
    · exact .inr s
  | .lst l, x, q => by
    simp only [VR] at q ⊢
    obtain ⟨a, xs, e, n, s, r⟩ := q
    exact ⟨a, xs, e, E.nown n s, E.keep _ _ s n, VRs.extS R E r⟩
  | .fz l, x, q => by
    simp only [VR] at q ⊢
    obtain ⟨a, xs, e, s, r⟩ := q
    refine ⟨a, xs, e, s.imp fun o s => E.keep _ _ s (R.not_own s fun z => z), VRs.extS R E r⟩
  | .ref i, x, q => by
    simp only [VR] at q ⊢
    obtain ⟨a, e, n⟩ := q
    obtain ⟨t, em, _⟩ := E.m
    refine ⟨a, e, ?_⟩
    rw [em, List.getElem?_append_left (List.getElem?_eq_some_iff.mp n).1]
    exact n
theorem VRs.extS (R : HR K g H h) (E : ExtS g H g' H') : ∀ {l : List Val} {xs : List V}, VRs K g H l xs → VRs K g' H' l xs
  | [], xs, q => by simpa only [VRs] using q
  | v :: l, xs, q => by
    simp only [VRs] at q ⊢
    obtain ⟨x, r, e, q1, q2⟩ := q
    exact ⟨x, r, e, VR.extS R E q1, VRs.extS R E q2⟩
end
theorem VR.ext (R : HR K g H h) (E : Ext g H g' H') {v : Val} {x : V} (q : VR K g H v x) : VR K g' H' v x := VR.extS R E.s q
theorem VRs.ext (R : HR K g H h) (E : Ext g H g' H') {l : List Val} {xs : List V} (q : VRs K g H l xs) : VRs K g' H' l xs := VRs.extS R E.s q
theorem SR.ext {l : Loc} {σ : L2.St} (S : SR K g H l σ) (R : HR K g H h) (E : Ext g H g' H') : SR K g' H' l σ :=
  ⟨S.len, fun i v e => by obtain ⟨x, e1, e2⟩ := S.at_ i v e; exact ⟨x, e1, e2.ext R E⟩⟩
end
section
variable {K : PySem.W.Frag} {g : Gh} {H : Hp}
theorem VRs.length : ∀ {l : List Val} {xs : List V}, VRs K g H l xs → l.length = xs.length
  | [], xs, q => by simp only [VRs] at q; subst q; rfl
  | v :: l, xs, q => by
    simp only [VRs] at q
    obtain ⟨x, r, e, _, q2⟩ := q
    subst e
    simp [VRs.length q2]
theorem VRs.get : ∀ {l : List Val} {xs : List V} {i : Nat} {v : Val}, VRs K g H l xs → l[i]? = some v → ∃ x, xs[i]? = some x ∧ VR K g H v x
  | [], xs, i, v, q, e => by simp at e
  | w :: l, xs, i, v, q, e => by
    simp only [VRs] at q
    obtain ⟨x, r, rfl, q1, q2⟩ := q
    cases i with
    | zero => simp at e; subst e; exact ⟨x, by simp, q1⟩
    | succ i =>
      obtain ⟨y, e1, e2⟩ := VRs.get (i := i) q2 (by simpa using e)
      exact ⟨y, by simpa using e1, e2⟩
theorem VRs.get' : ∀ {l : List Val} {xs : List V} {i : Nat} {x : V}, VRs K g H l xs → xs[i]? = some x → ∃ v, l[i]? = some v ∧ VR K g H v x
  | [], xs, i, v, q, e => by simp only [VRs] at q; subst q; simp at e
  | w :: l, xs, i, v, q, e => by
    simp only [VRs] at q
    obtain ⟨x, r, rfl, q1, q2⟩ := q
    cases i with
    | zero => simp at e; subst e; exact ⟨w, by simp, q1⟩
    | succ i =>
      obtain ⟨y, e1, e2⟩ := VRs.get' (i := i) q2 (by simpa using e)
      exact ⟨y, by simpa using e1, e2⟩
theorem VRs.append : ∀ {l l' : List Val} {xs xs' : List V}, VRs K g H l xs → VRs K g H l' xs' → VRs K g H (l ++ l') (xs ++ xs')
  | [], l', xs, xs', q, q' => by simp only [VRs] at q; subst q; simpa using q'
  | v :: l, l', xs, xs', q, q' => by
    simp only [VRs] at q
    obtain ⟨x, r, rfl, q1, q2⟩ := q
    show VRs K g H (v :: (l ++ l')) (x :: (r ++ xs'))
    simp only [VRs]
    exact ⟨x, _, rfl, q1, VRs.append q2 q'⟩
theorem VRs.nil : VRs K g H [] [] := by simp only [VRs]
theorem VRs.cons {v : Val} {x : V} {l : List Val} {xs : List V} (a : VR K g H v x) (b : VRs K g H l xs) : VRs K g H (v :: l) (x :: xs) := by
  simp only [VRs]; exact ⟨x, xs, rfl, a, b⟩
theorem VRs.one {v : Val} {x : V} (a : VR K g H v x) : VRs K g H [v] [x] := .cons a .nil
theorem VRs.take : ∀ {l : List Val} {xs : List V} (n : Nat), VRs K g H l xs → VRs K g H (l.take n) (xs.take n)
  | l, xs, 0, q => by simpa using VRs.nil
  | [], xs, n + 1, q => by simp only [VRs] at q; subst q; simpa using VRs.nil
  | v :: l, xs, n + 1, q => by
    simp only [VRs] at q
    obtain ⟨x, r, rfl, q1, q2⟩ := q
    exact .cons q1 (VRs.take n q2)
theorem VRs.drop : ∀ {l : List Val} {xs : List V} (n : Nat), VRs K g H l xs → VRs K g H (l.drop n) (xs.drop n)
  | l, xs, 0, q => by simpa using q
  | [], xs, n + 1, q => by simp only [VRs] at q; subst q; simpa using VRs.nil
  | v :: l, xs, n + 1, q => by
    simp only [VRs] at q
    obtain ⟨x, r, rfl, q1, q2⟩ := q
    simpa using VRs.drop n q2
theorem VRs.reverse : ∀ {l : List Val} {xs : List V}, VRs K g H l xs → VRs K g H l.reverse xs.reverse
  | [], xs, q => by simp only [VRs] at q; subst q; simpa using VRs.nil
  | v :: l, xs, q => by
    simp only [VRs] at q
    obtain ⟨x, r, rfl, q1, q2⟩ := q
    simp only [List.reverse_cons]
    exact (VRs.reverse q2).append (.one q1)
theorem VRs.set : ∀ {l : List Val} {xs : List V} (i : Nat) {v : Val} {x : V}, VRs K g H l xs → VR K g H v x → VRs K g H (l.set i v) (xs.set i x)
  | [], xs, i, v, x, q, p => by simp only [VRs] at q; subst q; simpa using VRs.nil
  | w :: l, xs, 0, v, x, q, p => by
    simp only [VRs] at q
    obtain ⟨y, r, rfl, q1, q2⟩ := q
    exact .cons p q2
  | w :: l, xs, i + 1, v, x, q, p => by
    simp only [VRs] at q
    obtain ⟨y, r, rfl, q1, q2⟩ := q
    exact .cons q1 (VRs.set i q2 p)
end
end GH
set_option Elab.async false
set_option linter.all false
set_option maxRecDepth 100000
set_option maxHeartbeats 1000000
set_option autoImplicit false
/-! What a piece of text yields, as a function over values and the small heap; the judgements. -/
namespace GH
open PySem PySem.Spec PyProof.Rows L2

structure Ex where
  c : List Nat
  fs : List (List Nat × Val)
inductive Res (α : Type) where
  | ok (a : α) (h : Hv)
  | exc (e : Ex) (h : Hv)
  | fail
def Res.bind {α β : Type} (r : Res α) (k : α → Hv → Res β) : Res β := match r with
  | .ok a h => k a h
  | .exc e h => .exc e h
  | .fail => .fail
@[simp] theorem Res.bind_ok {α β : Type} (a : α) (h : Hv) (k : α → Hv → Res β) : (Res.ok a h).bind k = k a h := rfl
@[simp] theorem Res.bind_exc {α β : Type} (e : Ex) (h : Hv) (k : α → Hv → Res β) : (Res.exc e h : Res α).bind k = .exc e h := rfl
@[simp] theorem Res.bind_fail {α β : Type} (k : α → Hv → Res β) : (Res.fail : Res α).bind k = .fail := rfl
abbrev DenG (α : Type) := Loc → Hv → Res α
abbrev Den := DenG Val
def ER (K : PySem.W.Frag) (g : Gh) (H : Hp) (e : Ex) (cls : Value) (d : Option Addr) : Prop := cls = .ref (clsA K e.c) ∧ match e.fs with
  | [] => d = none
  | p :: r => ∃ a gs, d = some a ∧ ¬ g.own a ∧ H a = some (.xd gs) ∧ FR K g H (p :: r) gs

def After {α β : Type} (K : PySem.W.Frag) (W : WX) (rel : Gh → Hp → α → β → Prop) (σ : L2.St) (g : Gh) (H : Hp) (Q : β → Hp → Prop) : Res α → Prop
  | .ok v h' => ∀ g' H' x, Ext g H g' H' → HR K g' H' h' → rel g' H' v x → Q x H'
  | .exc e h' => ∀ g' H' cls d, Ext g H g' H' → HR K g' H' h' → ER K g' H' e cls d → W cls d σ H'
  | .fail => False
section
variable {α β : Type} {K : PySem.W.Frag} {W : WX} {rel : Gh → Hp → α → β → Prop} {σ : L2.St} {g g1 : Gh} {H H1 : Hp} {Q : β → Hp → Prop}
theorem After.ext {r : Res α} (E : Ext g H g1 H1) (A : After K W rel σ g H Q r) : After K W rel σ g1 H1 Q r := by
  cases r with
  | ok v h => exact fun g' H' x E' => A g' H' x (E.trans E')
  | exc e h => exact fun g' H' c d E' => A g' H' c d (E.trans E')
  | fail => exact A
def tG (K : PySem.W.Frag) (W : WX) (rel : Gh → Hp → α → β → Prop) (d : DenG α) : L2.St → Hp → (β → Hp → Prop) → Prop :=
  fun σ H Q => ∃ g l h, SR K g H l σ ∧ HR K g H h ∧ After K W rel σ g H Q (d l h)
end
abbrev vr (K : PySem.W.Frag) : Gh → Hp → Val → V → Prop := fun g H v x => VR K g H v x
abbrev vrs (K : PySem.W.Frag) : Gh → Hp → List Val → List V → Prop := fun g H v x => VRs K g H v x
abbrev br : Gh → Hp → Bool → Bool → Prop := fun _ _ a b => a = b
/-- an expression yields what d says -/
def GE (X : Cx) (W : WX) (e : Expr) (d : Den) : Prop := PE X e (tG X.K W (vr X.K) d)
def GA (X : Cx) (W : WX) (es : List Expr) (d : DenG (List Val)) : Prop := PA X es (tG X.K W (vrs X.K) d)
def GT (X : Cx) (W : WX) (e : Expr) (d : DenG Bool) : Prop := PT X e (tG X.K W br d)
def GW (X : Cx) (W : WX) (e : Expr) (d : DenG Bool) : Prop := PW X e (tG X.K W br d)

section
variable {α β γ δ : Type} {K : PySem.W.Frag} {W : WX} {σ : L2.St} {g : Gh} {H : Hp} {l : Loc} {h : Hv}
/-- the first part of a bind -/
theorem tG_of {rel : Gh → Hp → α → β → Prop} {rel2 : Gh → Hp → γ → δ → Prop} {d : DenG α} {k : α → Hv → Res γ} {Q : δ → Hp → Prop} {R : β → Hp → Prop} (S : SR K g H l σ) (hr : HR K g H h) (A : After K W rel2 σ g H Q ((d l h).bind k))
    (hk : ∀ v h1 g1 H1 x, Ext g H g1 H1 → SR K g1 H1 l σ → HR K g1 H1 h1 → rel g1 H1 v x → After K W rel2 σ g1 H1 Q (k v h1) → R x H1) : tG K W rel d σ H R := by
  refine ⟨g, l, h, S, hr, ?_⟩
  cases e : d l h with
  | ok v h1 =>
    rw [e] at A
    intro g' H' x E R' r
    exact hk v h1 g' H' x E (S.ext hr E) R' r (After.ext E A)
  | exc x h1 =>
    rw [e] at A
    exact A
  | fail =>
    rw [e] at A
    exact A
end
theorem PE.imp {X : Cx} {e : Expr} {t t' : TE} (p : PE X e t) (h : ∀ σ H Q, t' σ H Q → t σ H Q) : PE X e t' := ⟨fun pins s σ H Q I q => p.run pins s σ H Q I (h σ H Q q)⟩
theorem PA.imp {X : Cx} {e : List Expr} {t t' : TA} (p : PA X e t) (h : ∀ σ H Q, t' σ H Q → t σ H Q) : PA X e t' := ⟨fun pos pins s σ H Q I q => p.run pos pins s σ H Q I (h σ H Q q)⟩
theorem PT.imp {X : Cx} {e : Expr} {t t' : TT} (p : PT X e t) (h : ∀ σ H Q, t' σ H Q → t σ H Q) : PT X e t' := ⟨fun pins s σ H Q I q => p.run pins s σ H Q I (h σ H Q q)⟩
theorem PW.imp {X : Cx} {e : Expr} {t t' : TT} (p : PW X e t) (h : ∀ σ H Q, t' σ H Q → t σ H Q) : PW X e t' := ⟨fun w pins s σ H Q I q => p.run w pins s σ H Q I (h σ H Q q)⟩
theorem PS.imp {X : Cx} {e : Stmt} {t t' : TS} (p : PS X e t) (h : ∀ D σ H, t' D σ H → t D σ H) : PS X e t' := ⟨fun pins s σ H D I q => p.run pins s σ H D I (h D σ H q)⟩
theorem PSs.imp {X : Cx} {e : List Stmt} {t t' : TS} (p : PSs X e t) (h : ∀ D σ H, t' D σ H → t D σ H) : PSs X e t' := ⟨fun pins s σ H D I q => p.run pins s σ H D I (h D σ H q)⟩

/-! ### names, constants -/
def dVar (i : Nat) : Den := fun l h => match l[i]? with
  | some (some v) => .ok v h
  | _ => .fail
def dC (v : Val) : Den := fun _ h => .ok v h
section
variable {X : Cx} {W : WX}
theorem ge_var (i : Nat) {x : Str} {pos : Pos} (hN : X.N[i]? = some x := by rfl) (hv : Vis X.env.scope x := by first | exact Or.inl rfl | exact Or.inr (Or.inl rfl) | exact Or.inr (Or.inr rfl)) (hd : (x == ("__debug__" : Str)) = false := by decide +kernel)
    (hcd : (x == ("__classdict__" : Str)) = false := by decide +kernel) : GE X W (.Name x pos) (dVar i) := by
  refine PE.imp (pe_var hN hv hd hcd) fun σ H Q ⟨g, l, h, S, R, A⟩ => ?_
  unfold dVar at A
  split at A
  · rename_i v e
    obtain ⟨x, e1, r⟩ := S.at_ i v e
    exact ⟨x, e1, A g H x Ext.refl R r⟩
  · exact A.elim
theorem ge_c {e : Expr} {v : Val} {x : V} (p : PE X e (tC x)) (r : ∀ g H, VR X.K g H v x) : GE X W e (dC v) :=
  PE.imp p fun σ H Q ⟨g, l, h, S, R, A⟩ => A g H x Ext.refl R (r g H)
theorem ge_int {i : Int} {j pos} : GE X W (.Constant (.int i) j pos) (dC (.int i)) := ge_c pe_int fun _ _ => by simp only [VR]
theorem ge_bl {b : Bool} {j pos} : GE X W (.Constant (.bool b) j pos) (dC (.bl b)) := ge_c pe_bl fun _ _ => by simp only [VR]
theorem ge_non {j pos} : GE X W (.Constant .none j pos) (dC .non) := ge_c pe_non fun _ _ => by simp only [VR]
theorem ge_str (s : List Nat) {x : Str} {j pos} (e : x = sOf s := by decide +kernel) : GE X W (.Constant (.str x) j pos) (dC (.str s)) := by
  subst e
  exact ge_c pe_str fun _ _ => by simp only [VR]

/-! ### arguments, displays -/
def dNil : DenG (List Val) := fun _ h => .ok [] h
def dCons (d : Den) (r : DenG (List Val)) : DenG (List Val) := fun l h => (d l h).bind fun v h1 => (r l h1).bind fun vs h2 => .ok (v :: vs) h2
theorem ga_nil : GA X W [] dNil := PA.imp pa_nil fun σ H Q ⟨g, l, h, S, R, A⟩ => A g H [] Ext.refl R VRs.nil
theorem ga_cons {e : Expr} {es : List Expr} {d : Den} {r : DenG (List Val)} (ha : GE X W e d) (hr : GA X W es r) (hs : starEach (e :: es) X.env = (false, eval e X.env) :: starEach es X.env := by rfl) : GA X W (e :: es) (dCons d r) := by
  refine PA.imp (pa_cons ha hr hs) fun σ H Q ⟨g, l, h, S, R, A⟩ => ?_
  refine tG_of S R A fun v h1 g1 H1 x E S1 R1 r1 A1 => ?_
  refine tG_of S1 R1 A1 fun vs h2 g2 H2 xs E2 S2 R2 r2 A2 => ?_
  exact A2 g2 H2 (x :: xs) Ext.refl R2 (.cons (r1.ext R1 E2) r2)
/-- a new object that is not tracked by us: a tuple, a list nobody writes -/
theorem HR.grow {K : PySem.W.Frag} {g : Gh} {H : Hp} {h : Hv} {p : Addr} {o : HO} (R : HR K g H h) (np : H p = none) : Ext g H g (upd H p o) ∧ HR K g (upd H p o) h := by
  have E : Ext g H g (upd H p o) := ⟨⟨[], by simp, by simp⟩, rfl, fun b u e hb => by rw [upd_ne (ne_of_none e np)]; exact e, fun b u e => ⟨u, by rw [upd_ne (ne_of_none e np)]; exact e⟩⟩
  refine ⟨E, R.len, R.nd, R.dis, fun a ha => ?_, fun i o' a e1 e2 => ?_⟩
  · obtain ⟨ob, e, mu⟩ := R.al a ha
    exact ⟨ob, by rw [upd_ne (ne_of_none e np)]; exact e, mu⟩
  · have q := R.obj i o' a e1 e2
    cases o' with
    | lst l => obtain ⟨xs, e, r⟩ := q; exact ⟨xs, by rw [upd_ne (ne_of_none e np)]; exact e, r.ext R E⟩
    | dic l => obtain ⟨xs, e, r⟩ := q; exact ⟨xs, by rw [upd_ne (ne_of_none e np)]; exact e, r.1, r.2.ext R E⟩
    | ins c f => obtain ⟨dx, gs, e, r⟩ := q; exact ⟨dx, gs, by rw [upd_ne (ne_of_none e np)]; exact e, r.1, r.2.ext R E⟩
/-- a new object that is tracked by us -/
theorem HR.push {K : PySem.W.Frag} {g : Gh} {H : Hp} {h : Hv} {p : Addr} {o : HO} {ob : Ob} (R : HR K g H h) (np : H p = none)
    (ok : OR K ⟨g.m ++ [p], g.r⟩ (upd H p o) p ob) : Ext g H ⟨g.m ++ [p], g.r⟩ (upd H p o) ∧ HR K ⟨g.m ++ [p], g.r⟩ (upd H p o) (h ++ [ob]) := by
  have E : Ext g H ⟨g.m ++ [p], g.r⟩ (upd H p o) := ⟨⟨[p], rfl, fun b hb => by rw [List.mem_singleton.mp hb]; exact np⟩, rfl, fun b u e hb => by rw [upd_ne (ne_of_none e np)]; exact e, fun b u e => ⟨u, by rw [upd_ne (ne_of_none e np)]; exact e⟩⟩
  have hp : ¬ g.own p := R.fresh np
  refine ⟨E, by simp [R.len], ?_, ?_, fun a ha => ?_, fun i o' a e1 e2 => ?_⟩
  · show (g.m ++ [p]).Nodup
    refine List.nodup_append.mpr ⟨R.nd, by simp, fun a ha b hb => ?_⟩
    rw [List.mem_singleton.mp hb]
    rintro rfl
    exact hp (.inl ha)
  · show ∀ a ∈ g.m ++ [p], a ∉ g.r
    intro a ha
    rcases List.mem_append.mp ha with ha | ha
    · exact R.dis a ha
    · rw [List.mem_singleton.mp ha]
      exact fun z => hp (.inr z)
  · obtain ⟨ob, e, mu⟩ := R.al a ha
    exact ⟨ob, by rw [upd_ne (ne_of_none e np)]; exact e, mu⟩
  · have e2 : (g.m ++ [p])[i]? = some a := e2
    by_cases hi : i < h.length
    · rw [List.getElem?_append_left hi] at e1
      rw [List.getElem?_append_left (by rw [R.len]; exact hi)] at e2
      have q := R.obj i o' a e1 e2
      cases o' with
      | lst l => obtain ⟨xs, e, r⟩ := q; exact ⟨xs, by rw [upd_ne (ne_of_none e np)]; exact e, r.ext R E⟩
      | dic l => obtain ⟨xs, e, r⟩ := q; exact ⟨xs, by rw [upd_ne (ne_of_none e np)]; exact e, r.1, r.2.ext R E⟩
      | ins c f => obtain ⟨dx, gs, e, r⟩ := q; exact ⟨dx, gs, by rw [upd_ne (ne_of_none e np)]; exact e, r.1, r.2.ext R E⟩
    · have hi' : i = h.length := by
        have := (List.getElem?_eq_some_iff.mp e1).1
        simp at this
        omega
      subst hi'
      rw [List.getElem?_append_right (Nat.le_refl _)] at e1
      rw [List.getElem?_append_right (by rw [R.len]; exact Nat.le_refl _)] at e2
      simp at e1
      rw [R.len] at e2
      simp at e2
      subst e1 e2
      exact ok
def lineN : Nat := 16777216
theorem line_ok {n : Nat} (h : n ≤ lineN) : n ≤ sizeLine := by rw [sizeLine_eq]; exact h
theorem line_lt {n : Nat} (h : n < lineN) : n < sizeLine := by rw [sizeLine_eq]; exact h
/-- the result stands in a new tuple -/
def mkTup (vs : List Val) (h : Hv) : Res Val := if vs.length ≤ lineN then .ok (.tup vs) h else .fail
def mkLst (vs : List Val) (h : Hv) : Res Val := if vs.length ≤ lineN then .ok (.lst vs) h else .fail
def mkRef (vs : List Val) (h : Hv) : Res Val := if vs.length ≤ lineN then .ok (.ref h.length) (h ++ [.lst vs]) else .fail
section
variable {K : PySem.W.Frag} {σ : L2.St} {g : Gh} {H : Hp} {h : Hv} {Q : VK} {vs : List Val} {xs : List V}
theorem mkTup_ok (R : HR K g H h) (r : VRs K g H vs xs) (A : After K W (vr K) σ g H Q (mkTup vs h)) : xs.length ≤ sizeLine ∧ ∀ p, H p = none → Q (.ref p) (upd H p (.tup xs)) := by
  unfold mkTup at A
  split at A
  · rename_i hl
    refine ⟨by rw [← r.length]; exact line_ok hl, fun p np => ?_⟩
    obtain ⟨E, R1⟩ := R.grow (o := .tup xs) np
    refine A g _ (.ref p) E R1 ?_
    simp only [VR]
    exact ⟨p, xs, rfl, SqT.of upd_same, r.ext R E⟩
  · exact A.elim
theorem mkLst_ok (R : HR K g H h) (r : VRs K g H vs xs) (A : After K W (vr K) σ g H Q (mkLst vs h)) : xs.length ≤ sizeLine ∧ ∀ p, H p = none → Q (.ref p) (upd H p (.lst xs)) := by
  unfold mkLst at A
  split at A
  · rename_i hl
    refine ⟨by rw [← r.length]; exact line_ok hl, fun p np => ?_⟩
    obtain ⟨E, R1⟩ := R.grow (o := .lst xs) np
    refine A g _ (.ref p) E R1 ?_
    simp only [VR]
    exact ⟨p, xs, rfl, R.fresh np, upd_same, r.ext R E⟩
  · exact A.elim
theorem mkRef_ok (R : HR K g H h) (r : VRs K g H vs xs) (A : After K W (vr K) σ g H Q (mkRef vs h)) : xs.length ≤ sizeLine ∧ ∀ p, H p = none → Q (.ref p) (upd H p (.lst xs)) := by
  unfold mkRef at A
  split at A
  · rename_i hl
    refine ⟨by rw [← r.length]; exact line_ok hl, fun p np => ?_⟩
    have E : Ext g H ⟨g.m ++ [p], g.r⟩ (upd H p (.lst xs)) := ⟨⟨[p], rfl, fun b hb => by rw [List.mem_singleton.mp hb]; exact np⟩, rfl, fun b u e hb => by rw [upd_ne (ne_of_none e np)]; exact e, fun b u e => ⟨u, by rw [upd_ne (ne_of_none e np)]; exact e⟩⟩
    obtain ⟨_, R1⟩ := R.push (o := .lst xs) (ob := .lst vs) np ⟨xs, upd_same, r.ext R E⟩
    refine A _ _ (.ref p) E R1 ?_
    simp only [VR]
    refine ⟨p, rfl, ?_⟩
    show (g.m ++ [p])[h.length]? = some p
    rw [← R.len]
    simp
  · exact A.elim
end
def dTup (r : DenG (List Val)) : Den := fun l h => (r l h).bind mkTup
def dLst (r : DenG (List Val)) : Den := fun l h => (r l h).bind mkLst
def dLstM (r : DenG (List Val)) : Den := fun l h => (r l h).bind mkRef
theorem ge_tup {es : List Expr} {r : DenG (List Val)} {k : Nat} {pos : Pos} (ha : GA X W es r) : GE X W (.Tuple es k pos) (dTup r) := by
  refine PE.imp (pe_tup ha) fun σ H Q ⟨g, l, h, S, R, A⟩ => ?_
  exact tG_of S R A fun v h1 g1 H1 x E S1 R1 r1 A1 => mkTup_ok R1 r1 A1
theorem ge_lst {es : List Expr} {r : DenG (List Val)} {pos : Pos} (ha : GA X W es r) : GE X W (.List es pos) (dLst r) := by
  refine PE.imp (pe_lst ha) fun σ H Q ⟨g, l, h, S, R, A⟩ => ?_
  exact tG_of S R A fun v h1 g1 H1 x E S1 R1 r1 A1 => mkLst_ok R1 r1 A1
theorem ge_lstM {es : List Expr} {r : DenG (List Val)} {pos : Pos} (ha : GA X W es r) : GE X W (.List es pos) (dLstM r) := by
  refine PE.imp (pe_lst ha) fun σ H Q ⟨g, l, h, S, R, A⟩ => ?_
  exact tG_of S R A fun v h1 g1 H1 x E S1 R1 r1 A1 => mkRef_ok R1 r1 A1

/-! ### operators: by values -/
/-- f on values, when the operands stand, is r -/
def OpG (X : Cx) (op : Value → Value → Sem Value) (f : Val → Val → Hv → Res Val) : Prop := ∃ r : R2, OpR X op r ∧
  ∀ (W : WX) (g : Gh) (H : Hp) (h : Hv) (σ : L2.St) (v u : Val) (x y : V) (Q : VK), HR X.K g H h → VR X.K g H v x → VR X.K g H u y → After X.K W (vr X.K) σ g H Q (f v u h) → r x y H Q
def dBin (f : Val → Val → Hv → Res Val) (da db : Den) : Den := fun l h => (da l h).bind fun v h1 => (db l h1).bind fun u h2 => f v u h2
theorem tBin {X : Cx} {W : WX} {f : Val → Val → Hv → Res Val} {da db : Den} {r : R2}
    (hr : ∀ (W : WX) (g : Gh) (H : Hp) (h : Hv) (σ : L2.St) (v u : Val) (x y : V) (Q : VK), HR X.K g H h → VR X.K g H v x → VR X.K g H u y → After X.K W (vr X.K) σ g H Q (f v u h) → r x y H Q)
    (σ : L2.St) (H : Hp) (Q : VK) (z : tG X.K W (vr X.K) (dBin f da db) σ H Q) : tOp r (tG X.K W (vr X.K) da) (tG X.K W (vr X.K) db) σ H Q := by
  obtain ⟨g, l, h, S, R, A⟩ := z
  refine tG_of S R A fun v h1 g1 H1 x E S1 R1 r1 A1 => ?_
  refine tG_of S1 R1 A1 fun u h2 g2 H2 y E2 S2 R2 r2 A2 => ?_
  exact hr W g2 H2 h2 σ v u x y Q R2 (r1.ext R1 E2) r2 A2
theorem ge_bin {op : Operator} {f : Val → Val → Hv → Res Val} {a b : Expr} {da db : Den} {pos : Pos} (ho : OpG X (binaryOp op) f) (ha : GE X W a da) (hb : GE X W b db) : GE X W (.BinOp a op b pos) (dBin f da db) := by
  obtain ⟨r, ho, hr⟩ := ho
  exact PE.imp (pe_op ho ha hb) fun σ H Q z => tBin hr σ H Q z
theorem ge_cmp {op : CmpOp} {f : Val → Val → Hv → Res Val} {a b : Expr} {da db : Den} {pos : Pos} (ho : OpG X (compareOp op) f) (ha : GE X W a da) (hb : GE X W b db) (hm : behindInMarks op b = false := by first | exact nomark _ | rfl) : GE X W (.Compare a [op] [b] pos) (dBin f da db) := by
  obtain ⟨r, ho, hr⟩ := ho
  exact PE.imp (pe_cmpR ho ha hb hm) fun σ H Q z => tBin hr σ H Q z
def resB (r : Res Val) : Res Bool := r.bind fun v h => match v with
  | .bl b => .ok b h
  | _ => .fail
/-- an expression that yields a bool, as a test -/
def dB (d : Den) : DenG Bool := fun l h => resB (d l h)
theorem tB_of {d : Den} {σ : L2.St} {H : Hp} {Q : Bool → Hp → Prop} (z : tG X.K W br (dB d) σ H Q) : tG X.K W (vr X.K) d σ H fun x H1 => ∃ c, x = .bl c ∧ Q c H1 := by
  obtain ⟨g, l, h, S, R, A⟩ := z
  refine tG_of S R (A : After X.K W br σ g H Q ((d l h).bind _)) fun v h1 g1 H1 x E S1 R1 r1 A1 => ?_
  cases v with
  | bl b =>
    simp only [VR] at r1
    exact ⟨b, r1, A1 g1 H1 b Ext.refl R1 rfl⟩
  | _ => exact A1.elim
theorem gt_cmp {op : CmpOp} {f : Val → Val → Hv → Res Val} {a b : Expr} {da db : Den} {pos : Pos} (ho : OpG X (compareOp op) f) (ha : GE X W a da) (hb : GE X W b db) (hm : behindInMarks op b = false := by first | exact nomark _ | rfl) : GT X W (.Compare a [op] [b] pos) (dB (dBin f da db)) := by
  obtain ⟨r, ho, hr⟩ := ho
  exact PT.imp (pt_cmpR ho ha hb hm) fun σ H Q z => tBin hr σ H _ (tB_of z)
theorem gt_val {e : Expr} {d : Den} (he : GE X W e d) (hs : ∀ whole, isTrue e X.env whole = (do let v ← whole; standAt e.pos; holding [v] (truthy v)) := by intro _; rfl) : GT X W e (dB d) :=
  PT.imp (pt_val he hs) fun σ H Q z => tB_of z

/-! ### and, or, not; if-else -/
def dAnd (a b : DenG Bool) : DenG Bool := fun l h => (a l h).bind fun c h1 => if c then b l h1 else .ok false h1
def dOr (a b : DenG Bool) : DenG Bool := fun l h => (a l h).bind fun c h1 => if c then .ok true h1 else b l h1
def dNot (a : DenG Bool) : DenG Bool := fun l h => (a l h).bind fun c h1 => .ok (!c) h1
theorem gw_and1 {a : Expr} {d : DenG Bool} {pos : Pos} (ha : GT X W a d) : GW X W (.BoolOp .And [a] pos) d := pw_and1 ha
theorem gw_or1 {a : Expr} {d : DenG Bool} {pos : Pos} (ha : GT X W a d) : GW X W (.BoolOp .Or [a] pos) d := pw_or1 ha
theorem gw_and {a b : Expr} {rest : List Expr} {da db : DenG Bool} {pos : Pos} (ha : GT X W a da) (hb : GW X W (.BoolOp .And (b :: rest) pos) db) : GW X W (.BoolOp .And (a :: b :: rest) pos) (dAnd da db) := by
  refine PW.imp (pw_and ha hb) fun σ H Q ⟨g, l, h, S, R, A⟩ => ?_
  refine tG_of S R A fun v h1 g1 H1 x E S1 R1 r1 A1 => ?_
  obtain rfl : v = x := r1
  cases v with
  | true => exact ⟨g1, l, h1, S1, R1, A1⟩
  | false => exact A1 g1 H1 false Ext.refl R1 rfl
theorem gw_or {a b : Expr} {rest : List Expr} {da db : DenG Bool} {pos : Pos} (ha : GT X W a da) (hb : GW X W (.BoolOp .Or (b :: rest) pos) db) : GW X W (.BoolOp .Or (a :: b :: rest) pos) (dOr da db) := by
  refine PW.imp (pw_or ha hb) fun σ H Q ⟨g, l, h, S, R, A⟩ => ?_
  refine tG_of S R A fun v h1 g1 H1 x E S1 R1 r1 A1 => ?_
  obtain rfl : v = x := r1
  cases v with
  | true => exact A1 g1 H1 true Ext.refl R1 rfl
  | false => exact ⟨g1, l, h1, S1, R1, A1⟩
theorem GW.pt {e : Expr} {d : DenG Bool} (h : GW X W e d) : GT X W e d := PW.pt h
theorem gt_not {a : Expr} {d : DenG Bool} {pos : Pos} (ha : GT X W a d) : GT X W (.UnaryOp .Not a pos) (dNot d) := by
  refine PT.imp (pt_not ha) fun σ H Q ⟨g, l, h, S, R, A⟩ => ?_
  refine tG_of S R A fun v h1 g1 H1 x E S1 R1 r1 A1 => ?_
  obtain rfl : v = x := r1
  exact A1 g1 H1 (!v) Ext.refl R1 rfl
def dIf (c : DenG Bool) (a b : Den) : Den := fun l h => (c l h).bind fun t h1 => if t then a l h1 else b l h1
theorem ge_if {c a b : Expr} {dc : DenG Bool} {da db : Den} {pos : Pos} (hc : GT X W c dc) (ha : GE X W a da) (hb : GE X W b db) : GE X W (.IfExp c a b pos) (dIf dc da db) := by
  refine PE.imp (pe_ifExp hc ha hb) fun σ H Q ⟨g, l, h, S, R, A⟩ => ?_
  refine tG_of S R A fun v h1 g1 H1 x E S1 R1 r1 A1 => ?_
  obtain rfl : v = x := r1
  cases v with
  | true => exact ⟨g1, l, h1, S1, R1, A1⟩
  | false => exact ⟨g1, l, h1, S1, R1, A1⟩
/-- and, or, not as values (bools all) -/
def dAndV (a b : Den) : Den := fun l h => (a l h).bind fun v h1 => match v with
  | .bl c => if c then b l h1 else .ok (.bl false) h1
  | _ => .fail
def dOrV (a b : Den) : Den := fun l h => (a l h).bind fun v h1 => match v with
  | .bl c => if c then .ok (.bl true) h1 else b l h1
  | _ => .fail
def dNotV (a : Den) : Den := fun l h => (a l h).bind fun v h1 => match v with
  | .bl c => .ok (.bl (!c)) h1
  | _ => .fail
theorem ge_one {op} {a : Expr} {d : Den} {pos : Pos} (ha : GE X W a d) : GE X W (.BoolOp op [a] pos) d := pe_one ha
theorem ge_and {a b : Expr} {rest : List Expr} {da db : Den} {pos : Pos} (ha : GE X W a da) (hb : GE X W (.BoolOp .And (b :: rest) pos) db) : GE X W (.BoolOp .And (a :: b :: rest) pos) (dAndV da db) := by
  refine PE.imp (pe_and ha hb) fun σ H Q ⟨g, l, h, S, R, A⟩ => ?_
  refine tG_of S R A fun v h1 g1 H1 x E S1 R1 r1 A1 => ?_
  cases v with
  | bl c =>
    simp only [VR] at r1
    refine ⟨c, r1, ?_⟩
    cases c with
    | true => exact ⟨g1, l, h1, S1, R1, A1⟩
    | false => exact A1 g1 H1 (.bl false) Ext.refl R1 (by simp only [VR])
  | _ => exact A1.elim
theorem ge_or {a b : Expr} {rest : List Expr} {da db : Den} {pos : Pos} (ha : GE X W a da) (hb : GE X W (.BoolOp .Or (b :: rest) pos) db) : GE X W (.BoolOp .Or (a :: b :: rest) pos) (dOrV da db) := by
  refine PE.imp (pe_or ha hb) fun σ H Q ⟨g, l, h, S, R, A⟩ => ?_
  refine tG_of S R A fun v h1 g1 H1 x E S1 R1 r1 A1 => ?_
  cases v with
  | bl c =>
    simp only [VR] at r1
    refine ⟨c, r1, ?_⟩
    cases c with
    | true => exact A1 g1 H1 (.bl true) Ext.refl R1 (by simp only [VR])
    | false => exact ⟨g1, l, h1, S1, R1, A1⟩
  | _ => exact A1.elim
theorem ge_not {a : Expr} {d : Den} {pos : Pos} (ha : GE X W a d) : GE X W (.UnaryOp .Not a pos) (dNotV d) := by
  refine PE.imp (pe_not ha) fun σ H Q ⟨g, l, h, S, R, A⟩ => ?_
  refine tG_of S R A fun v h1 g1 H1 x E S1 R1 r1 A1 => ?_
  cases v with
  | bl c =>
    simp only [VR] at r1
    exact ⟨c, r1, A1 g1 H1 _ Ext.refl R1 (by simp only [VR])⟩
  | _ => exact A1.elim
end

/-! ### statements -/
inductive SRes where
  | nx (l : Loc) (h : Hv) | rt (v : Val) (h : Hv) | bk (l : Loc) (h : Hv) | ct (l : Loc) (h : Hv) | exc (e : Ex) (l : Loc) (h : Hv) | fail
abbrev Stm := Loc → Hv → SRes
def AfterS (K : PySem.W.Frag) (W : WX) (g : Gh) (H : Hp) (D : Ends) : SRes → Prop
  | .nx l' h' => ∀ g' H' σ', Ext g H g' H' → HR K g' H' h' → SR K g' H' l' σ' → D.nx σ' H'
  | .bk l' h' => ∀ g' H' σ', Ext g H g' H' → HR K g' H' h' → SR K g' H' l' σ' → D.bk σ' H'
  | .ct l' h' => ∀ g' H' σ', Ext g H g' H' → HR K g' H' h' → SR K g' H' l' σ' → D.ct σ' H'
  | .rt v h' => ∀ g' H' x, Ext g H g' H' → HR K g' H' h' → VR K g' H' v x → D.rt x H'
  | .exc e l' h' => ∀ g' H' σ' cls d, Ext g H g' H' → HR K g' H' h' → SR K g' H' l' σ' → ER K g' H' e cls d → W cls d σ' H'
  | .fail => False
theorem AfterS.ext {K : PySem.W.Frag} {W : WX} {g g1 : Gh} {H H1 : Hp} {D : Ends} {r : SRes} (E : Ext g H g1 H1) (A : AfterS K W g H D r) : AfterS K W g1 H1 D r := by
  cases r with
  | nx l h => exact fun g' H' x E' => A g' H' x (E.trans E')
  | bk l h => exact fun g' H' x E' => A g' H' x (E.trans E')
  | ct l h => exact fun g' H' x E' => A g' H' x (E.trans E')
  | rt l h => exact fun g' H' x E' => A g' H' x (E.trans E')
  | exc e l h => exact fun g' H' s c d E' => A g' H' s c d (E.trans E')
  | fail => exact A
def tS (K : PySem.W.Frag) (W : WX) (d : Stm) : TS := fun D σ H => ∃ g l h, SR K g H l σ ∧ HR K g H h ∧ AfterS K W g H D (d l h)
def GS (X : Cx) (W : WX) (st : Stmt) (d : Stm) : Prop := PS X st (tS X.K W d)
def GSs (X : Cx) (W : WX) (st : List Stmt) (d : Stm) : Prop := PSs X st (tS X.K W d)
/-- from an expression's result on -/
def Res.to {α : Type} (r : Res α) (l : Loc) (k : α → Hv → SRes) : SRes := match r with
  | .ok v h => k v h
  | .exc e h => .exc e l h
  | .fail => .fail
@[simp] theorem Res.to_ok {α : Type} (a : α) (h : Hv) (l : Loc) (k : α → Hv → SRes) : (Res.ok a h).to l k = k a h := rfl
@[simp] theorem Res.to_exc {α : Type} (e : Ex) (h : Hv) (l : Loc) (k : α → Hv → SRes) : (Res.exc e h : Res α).to l k = .exc e l h := rfl
@[simp] theorem Res.to_fail {α : Type} (l : Loc) (k : α → Hv → SRes) : (Res.fail : Res α).to l k = .fail := rfl
theorem tG_to {α β : Type} {K : PySem.W.Frag} {W : WX} {σ : L2.St} {g : Gh} {H : Hp} {l : Loc} {h : Hv} {rel : Gh → Hp → α → β → Prop} {d : DenG α} {k : α → Hv → SRes} {D : Ends} {R : β → Hp → Prop} (S : SR K g H l σ) (hr : HR K g H h) (A : AfterS K W g H D ((d l h).to l k))
    (hk : ∀ v h1 g1 H1 x, Ext g H g1 H1 → SR K g1 H1 l σ → HR K g1 H1 h1 → rel g1 H1 v x → AfterS K W g1 H1 D (k v h1) → R x H1) : tG K W rel d σ H R := by
  refine ⟨g, l, h, S, hr, ?_⟩
  cases e : d l h with
  | ok v h1 =>
    rw [e] at A
    intro g' H' x E R' r
    exact hk v h1 g' H' x E (S.ext hr E) R' r (AfterS.ext E A)
  | exc x h1 =>
    rw [e] at A
    intro g' H' c d' E R' r
    exact A g' H' σ c d' E R' (S.ext hr E) r
  | fail =>
    rw [e] at A
    exact A
def sNext : Stm := fun l h => .nx l h
def SRes.andThen (r : SRes) (k : Stm) : SRes := match r with
  | .nx l h => k l h
  | r => r
@[simp] theorem SRes.andThen_nx (l : Loc) (h : Hv) (k : Stm) : (SRes.nx l h).andThen k = k l h := rfl
@[simp] theorem SRes.andThen_rt (v : Val) (h : Hv) (k : Stm) : (SRes.rt v h).andThen k = .rt v h := rfl
@[simp] theorem SRes.andThen_bk (l : Loc) (h : Hv) (k : Stm) : (SRes.bk l h).andThen k = .bk l h := rfl
@[simp] theorem SRes.andThen_ct (l : Loc) (h : Hv) (k : Stm) : (SRes.ct l h).andThen k = .ct l h := rfl
@[simp] theorem SRes.andThen_exc (e : Ex) (l : Loc) (h : Hv) (k : Stm) : (SRes.exc e l h).andThen k = .exc e l h := rfl
@[simp] theorem SRes.andThen_fail (k : Stm) : SRes.fail.andThen k = .fail := rfl
def sSeq (a b : Stm) : Stm := fun l h => (a l h).andThen b
def sRet (d : Den) : Stm := fun l h => (d l h).to l .rt
def sRetN : Stm := fun _ h => .rt .non h
def sExpr (d : Den) : Stm := fun l h => (d l h).to l fun _ h1 => .nx l h1
def sIf (c : DenG Bool) (a b : Stm) : Stm := fun l h => (c l h).to l fun t h1 => if t then a l h1 else b l h1
def sBreak : Stm := fun l h => .bk l h
def sCont : Stm := fun l h => .ct l h
section
variable {X : Cx} {W : WX}
theorem gs_nil : GSs X W [] sNext := PSs.imp pss_nil fun D σ H ⟨g, l, h, S, R, A⟩ => A g H σ Ext.refl R S
theorem gs_cons {st : Stmt} {rest : List Stmt} {a b : Stm} (h1 : GS X W st a) (h2 : GSs X W rest b) : GSs X W (st :: rest) (sSeq a b) := by
  refine PSs.imp (pss_cons h1 h2) fun D σ H ⟨g, l, h, S, R, A⟩ => ⟨g, l, h, S, R, ?_⟩
  unfold sSeq at A
  cases e : a l h with
  | nx l1 h1 =>
    rw [e] at A
    exact fun g' H' σ' E R' S' => ⟨g', l1, h1, S', R', AfterS.ext E A⟩
  | bk l1 h1 => rw [e] at A; exact A
  | ct l1 h1 => rw [e] at A; exact A
  | rt l1 h1 => rw [e] at A; exact A
  | exc x l1 h1 => rw [e] at A; exact A
  | fail => rw [e] at A; exact A
theorem gs_one {st : Stmt} {a : Stm} (h1 : GS X W st a) : GSs X W [st] a := pss_one h1
theorem gs_ret {e : Expr} {d : Den} {pos : Pos} (he : GE X W e d) : GS X W (.Return (some e) pos) (sRet d) := by
  refine PS.imp (ps_ret he) fun D σ H ⟨g, l, h, S, R, A⟩ => ?_
  exact tG_to S R A fun v h1 g1 H1 x E S1 R1 r1 A1 => A1 g1 H1 x Ext.refl R1 r1
theorem gs_retN {pos : Pos} : GS X W (.Return none pos) sRetN := PS.imp ps_retN fun D σ H ⟨g, l, h, S, R, A⟩ => A g H .non Ext.refl R (by simp only [VR])
theorem gs_expr {e : Expr} {d : Den} {pos : Pos} (he : GE X W e d) (hs : swapsWith e none pos.line X.env = pure false := by rfl) : GS X W (.Expr e pos) (sExpr d) := by
  refine PS.imp (ps_expr he hs) fun D σ H ⟨g, l, h, S, R, A⟩ => ?_
  exact tG_to S R A fun v h1 g1 H1 x E S1 R1 r1 A1 => A1 g1 H1 σ Ext.refl R1 S1
theorem gs_if {c : Expr} {a b : List Stmt} {dc : DenG Bool} {da db : Stm} {pos : Pos} (hc : GT X W c dc) (ha : GSs X W a da) (hb : GSs X W b db) : GS X W (.If c a b pos) (sIf dc da db) := by
  refine PS.imp (ps_if hc ha hb) fun D σ H ⟨g, l, h, S, R, A⟩ => ?_
  refine tG_to S R A fun v h1 g1 H1 x E S1 R1 r1 A1 => ?_
  obtain rfl : v = x := r1
  cases v with
  | true => exact ⟨g1, l, h1, S1, R1, A1⟩
  | false => exact ⟨g1, l, h1, S1, R1, A1⟩
theorem gs_pass {pos : Pos} : GS X W (.Pass pos) sNext := PS.imp ps_pass fun D σ H ⟨g, l, h, S, R, A⟩ => A g H σ Ext.refl R S
theorem gs_break {pos : Pos} : GS X W (.Break pos) sBreak := PS.imp ps_break fun D σ H ⟨g, l, h, S, R, A⟩ => A g H σ Ext.refl R S
theorem gs_continue {pos : Pos} : GS X W (.Continue pos) sCont := PS.imp ps_continue fun D σ H ⟨g, l, h, S, R, A⟩ => A g H σ Ext.refl R S

/-! ### targets -/
inductive TRes where
  | ok (l : Loc) (h : Hv) | exc (e : Ex) (l : Loc) (h : Hv) | fail
abbrev Tg := Val → Loc → Hv → TRes
abbrev Tgs := List Val → Loc → Hv → TRes
def AfterT (K : PySem.W.Frag) (W : WX) (g : Gh) (H : Hp) (Q : L2.St → Hp → Prop) : TRes → Prop
  | .ok l' h' => ∀ g' H' σ', Ext g H g' H' → HR K g' H' h' → SR K g' H' l' σ' → Q σ' H'
  | .exc e l' h' => ∀ g' H' σ' cls d, Ext g H g' H' → HR K g' H' h' → SR K g' H' l' σ' → ER K g' H' e cls d → W cls d σ' H'
  | .fail => False
theorem AfterT.ext {K : PySem.W.Frag} {W : WX} {g g1 : Gh} {H H1 : Hp} {D : L2.St → Hp → Prop} {r : TRes} (E : Ext g H g1 H1) (A : AfterT K W g H D r) : AfterT K W g1 H1 D r := by
  cases r with
  | ok l h => exact fun g' H' x E' => A g' H' x (E.trans E')
  | exc e l h => exact fun g' H' s c d E' => A g' H' s c d (E.trans E')
  | fail => exact A
def tT (K : PySem.W.Frag) (W : WX) (d : Tg) : TG := fun x σ H Q => ∃ g l h v, SR K g H l σ ∧ HR K g H h ∧ VR K g H v x ∧ AfterT K W g H Q (d v l h)
def tTs (K : PySem.W.Frag) (W : WX) (d : Tgs) : TGs := fun x σ H Q => ∃ g l h v, SR K g H l σ ∧ HR K g H h ∧ VRs K g H v x ∧ AfterT K W g H Q (d v l h)
def GG (X : Cx) (W : WX) (tg : Expr) (d : Tg) : Prop := PG X tg (tT X.K W d)
def GGs (X : Cx) (W : WX) (tg : List Expr) (d : Tgs) : Prop := PGs X tg (tTs X.K W d)
theorem PG.imp {X : Cx} {e : Expr} {t t' : TG} (p : PG X e t) (h : ∀ x σ H Q, t' x σ H Q → t x σ H Q) : PG X e t' := ⟨fun pins s σ H v u Q I r q => p.run pins s σ H v u Q I r (h v σ H Q q)⟩
theorem PGs.imp {X : Cx} {e : List Expr} {t t' : TGs} (p : PGs X e t) (h : ∀ x σ H Q, t' x σ H Q → t x σ H Q) : PGs X e t' := ⟨fun pins s σ H v u Q I r q => p.run pins s σ H v u Q I r (h v σ H Q q)⟩
def gName (i : Nat) : Tg := fun v l h => .ok (l.set i (some v)) h
theorem SR.set {K : PySem.W.Frag} {g : Gh} {H : Hp} {l : Loc} {σ : L2.St} {v : Val} {x : V} (S : SR K g H l σ) (i : Nat) (r : VR K g H v x) : SR K g H (l.set i (some v)) (σ.set i (some x)) := by
  refine ⟨by simp [S.len], fun j u e => ?_⟩
  by_cases hj : i = j
  · subst hj
    have hi : i < l.length := by
      have := (List.getElem?_eq_some_iff.mp e).1
      simpa using this
    rw [List.getElem?_set_self hi] at e
    cases e
    exact ⟨x, by rw [List.getElem?_set_self (by rw [← S.len]; exact hi)], r⟩
  · rw [List.getElem?_set_ne hj] at e
    obtain ⟨y, e1, e2⟩ := S.at_ j u e
    exact ⟨y, by rw [List.getElem?_set_ne hj]; exact e1, e2⟩
theorem gg_name (i : Nat) {x : Str} {pos : Pos} (hN : X.N.Nodup) (hi : X.N[i]? = some x := by rfl) (hx : L2.Loc X.env.scope x := by first | exact Or.inl rfl | exact Or.inr rfl) (hf : X.fn x = true ∨ X.env.scope.names.lookup x = some .local := by first | exact .inl rfl | exact .inr rfl) : GG X W (.Name x pos) (gName i) := by
  refine PG.imp (pg_name hN hi hx hf) fun y σ H Q ⟨g, l, h, v, S, R, r, A⟩ => ?_
  exact A g H _ Ext.refl R (S.set i r)
def gsNil : Tgs := fun vs l h => match vs with
  | [] => .ok l h
  | _ => .fail
def TRes.bind (r : TRes) (k : Loc → Hv → TRes) : TRes := match r with
  | .ok l h => k l h
  | .exc e l h => .exc e l h
  | .fail => .fail
@[simp] theorem TRes.bind_ok (l : Loc) (h : Hv) (k : Loc → Hv → TRes) : (TRes.ok l h).bind k = k l h := rfl
@[simp] theorem TRes.bind_exc (e : Ex) (l : Loc) (h : Hv) (k : Loc → Hv → TRes) : (TRes.exc e l h).bind k = .exc e l h := rfl
@[simp] theorem TRes.bind_fail (k : Loc → Hv → TRes) : TRes.fail.bind k = .fail := rfl
def gsCons (t : Tg) (u : Tgs) : Tgs := fun vs l h => match vs with
  | v :: r => (t v l h).bind fun l1 h1 => u r l1 h1
  | [] => .fail
theorem ggs_nil : GGs X W [] gsNil := by
  refine PGs.imp pgs_nil fun y σ H Q ⟨g, l, h, v, S, R, r, A⟩ => ?_
  cases v with
  | nil =>
    simp only [VRs] at r
    exact ⟨r, A g H σ Ext.refl R S⟩
  | cons v vs => exact A.elim
theorem ggs_cons {e : Expr} {es : List Expr} {t : Tg} {u : Tgs} (h1 : GG X W e t) (h2 : GGs X W es u)
    (hs : (assignEach (e :: es) X.env).map (·.2) = assign e X.env :: (assignEach es X.env).map (·.2) := by rfl) : GGs X W (e :: es) (gsCons t u) := by
  refine PGs.imp (pgs_cons h1 h2 hs) fun y σ H Q ⟨g, l, h, v, S, R, r, A⟩ => ?_
  cases v with
  | nil => exact A.elim
  | cons v vs =>
    simp only [VRs] at r
    obtain ⟨x, r', rfl, q1, q2⟩ := r
    refine ⟨x, r', rfl, g, l, h, v, S, R, q1, ?_⟩
    simp only [gsCons] at A
    cases e : t v l h with
    | ok l1 h1 =>
      rw [e] at A
      exact fun g' H' σ' E R' S' => ⟨g', l1, h1, vs, S', R', q2.ext R E, AfterT.ext E A⟩
    | exc x l1 h1 => rw [e] at A; exact A
    | fail => rw [e] at A; exact A
def gTup (n : Nat) (t : Tgs) : Tg := fun v l h => match v with
  | .tup vs => if vs.length = n then t vs l h else .fail
  | _ => .fail
theorem gg_tup {es : List Expr} {k : Nat} {t : Tgs} {n : Nat} {pos : Pos} (hc : X.calm = true) (h : GGs X W es t)
    (hn : (assignEach es X.env).length = n := by rfl) (hst : (assignEach es X.env).findIdx? (·.1) = none := by rfl) : GG X W (.Tuple es k pos) (gTup n t) := by
  refine PG.imp (pg_tup hc h hn hst) fun y σ H Q ⟨g, l, h, v, S, R, r, A⟩ => ?_
  cases v with
  | tup vs =>
    simp only [VR] at r
    obtain ⟨a, xs, rfl, q1, q2⟩ := r
    unfold gTup at A
    simp only at A
    split at A
    · rename_i hl
      exact ⟨a, xs, rfl, q1, by rw [← q2.length]; exact hl, g, l, h, vs, S, R, q2, A⟩
    · exact A.elim
  | _ => exact A.elim
def TRes.s (r : TRes) : SRes := match r with
  | .ok l h => .nx l h
  | .exc e l h => .exc e l h
  | .fail => .fail
@[simp] theorem TRes.s_ok (l : Loc) (h : Hv) : (TRes.ok l h).s = .nx l h := rfl
@[simp] theorem TRes.s_exc (e : Ex) (l : Loc) (h : Hv) : (TRes.exc e l h).s = .exc e l h := rfl
@[simp] theorem TRes.s_fail : TRes.fail.s = .fail := rfl
theorem AfterT.of_s {K : PySem.W.Frag} {W : WX} {g : Gh} {H : Hp} {D : Ends} {r : TRes} (A : AfterS K W g H D r.s) : AfterT K W g H D.nx r := by
  cases r <;> exact A
def sAsg (d : Den) (t : Tg) : Stm := fun l h => (d l h).to l fun v h1 => (t v l h1).s
theorem gs_asg {tg e : Expr} {d : Den} {t : Tg} {pos : Pos} (he : GE X W e d) (hg : GG X W tg t) (hs : swapsWithSole [tg] e pos.line X.env = pure false := by rfl) (hw : swappedStores [tg] e X.env = pure none := by rfl)
    (h1 : (assignEach [tg] X.env).map (·.2) = [assign tg X.env] := by rfl) : GS X W (.Assign [tg] e pos) (sAsg d t) := by
  refine PS.imp (ps_asg he hg hs hw h1) fun D σ H ⟨g, l, h, S, R, A⟩ => ?_
  exact tG_to S R A fun v h1 g1 H1 x E S1 R1 r1 A1 => ⟨g1, l, h1, v, S1, R1, r1, AfterT.of_s A1⟩
theorem gs_set (i : Nat) {x : Str} {e : Expr} {d : Den} {pos pos' : Pos} (he : GE X W e d) (hN : X.N.Nodup) (hi : X.N[i]? = some x := by rfl) (hx : L2.Loc X.env.scope x := by first | exact Or.inl rfl | exact Or.inr rfl)
    (hs : swapsWith e (some (.Name x pos')) pos.line X.env = pure false := by rfl) (hf : X.fn x = true ∨ X.env.scope.names.lookup x = some .local := by first | exact .inl rfl | exact .inr rfl) : GS X W (.Assign [.Name x pos'] e pos) (sAsg d (gName i)) := by
  refine PS.imp (ps_set hN hi hx he hs hf) fun D σ H ⟨g, l, h, S, R, A⟩ => ?_
  exact tG_to S R A fun v h1 g1 H1 x E S1 R1 r1 A1 => A1 g1 H1 _ Ext.refl R1 (S1.set i r1)
end
end GH
set_option Elab.async false
set_option linter.all false
set_option maxRecDepth 100000
set_option maxHeartbeats 1000000
set_option autoImplicit false
/-! Operators, subscripts, lengths, truth, lists and dicts: what they yield on values. -/
namespace GH
open PySem PySem.Spec PyProof.Rows L2

/-! ### reading sequences -/
def lstOf (h : Hv) : Val → Option (List Val)
  | .lst l => some l
  | .ref i => match h[i]? with
    | some (.lst l) => some l
    | _ => none
  | _ => none
def seqOf (h : Hv) : Val → Option (List Val)
  | .tup l => some l
  | v => lstOf h v
def dicOf (h : Hv) : Val → Option (List (Val × Val))
  | .ref i => match h[i]? with
    | some (.dic l) => some l
    | _ => none
  | _ => none
section
variable {K : PySem.W.Frag} {g : Gh} {H : Hp} {h : Hv} {v : Val} {x : V} {l : List Val}
theorem ref_at (R : HR K g H h) {i : Nat} {o : Ob} {a : Addr} (e : h[i]? = some o) (hm : g.m[i]? = some a) : OR K g H a o := R.obj i o a e hm
theorem lstOf_ok (R : HR K g H h) (r : VR K g H v x) (e : lstOf h v = some l) : ∃ a xs, x = .ref a ∧ H a = some (.lst xs) ∧ VRs K g H l xs := by
  cases v with
  | lst k =>
    simp only [lstOf, Option.some.injEq] at e
    subst e
    simp only [VR] at r
    obtain ⟨a, xs, e, _, s, r⟩ := r
    exact ⟨a, xs, e, s, r⟩
  | ref i =>
    simp only [lstOf] at e
    split at e
    · rename_i l' hl
      cases e
      simp only [VR] at r
      obtain ⟨a, rfl, hm⟩ := r
      obtain ⟨xs, e1, e2⟩ := ref_at R hl hm
      exact ⟨a, xs, rfl, e1, e2⟩
    · cases e
  | _ => simp [lstOf] at e
theorem seqOf_ok (R : HR K g H h) (r : VR K g H v x) (e : seqOf h v = some l) : ∃ a xs, x = .ref a ∧ (SqL K H a xs ∨ SqT K H a xs) ∧ VRs K g H l xs := by
  cases v with
  | tup k =>
    simp only [seqOf, Option.some.injEq] at e
    subst e
    simp only [VR] at r
    obtain ⟨a, xs, e, s, r⟩ := r
    exact ⟨a, xs, e, .inr s, r⟩
  | lst k => obtain ⟨a, xs, e, s, r⟩ := lstOf_ok R r (by simpa [seqOf] using e); exact ⟨a, xs, e, .inl (SqL.of s), r⟩
  | ref i => obtain ⟨a, xs, e, s, r⟩ := lstOf_ok R r (by simpa [seqOf] using e); exact ⟨a, xs, e, .inl (SqL.of s), r⟩
  | _ => simp [seqOf, lstOf] at e
theorem dicOf_ok (R : HR K g H h) (r : VR K g H v x) {l : List (Val × Val)} (e : dicOf h v = some l) : ∃ i a ks, v = .ref i ∧ x = .ref a ∧ g.m[i]? = some a ∧ h[i]? = some (.dic l) ∧ H a = some (.dK ks) ∧ DR K g H l ks := by
  cases v with
  | ref i =>
    simp only [dicOf] at e
    split at e
    · rename_i l' hl
      cases e
      simp only [VR] at r
      obtain ⟨a, rfl, hm⟩ := r
      obtain ⟨ks, e1, e2⟩ := ref_at R hl hm
      exact ⟨i, a, ks, rfl, rfl, hm, hl, e1, e2⟩
    · cases e
  | _ => simp [dicOf] at e
/-- an object of ours is written -/
theorem HR.write (R : HR K g H h) {i : Nat} {a : Addr} {ob : Ob} {o' : HO} (hm : g.m[i]? = some a) (ok : Ext g H g (upd H a o') → OR K g (upd H a o') a ob) :
    Ext g H g (upd H a o') ∧ HR K g (upd H a o') (h.set i ob) := by
  have ha : a ∈ g.m := List.mem_of_getElem? hm
  have E : Ext g H g (upd H a o') := by
    refine ⟨⟨[], by simp, by simp⟩, rfl, fun b u e hb => ?_, fun b u e => ?_⟩
    · rw [upd_ne (show b ≠ a from fun z => hb (by rw [z]; exact ha))]; exact e
    · by_cases hb : b = a
      · subst hb; exact ⟨_, upd_same⟩
      · exact ⟨u, by rw [upd_ne hb]; exact e⟩
  refine ⟨E, by simp [R.len], R.nd, R.dis, fun b hb => ?_, fun j o b e1 e2 => ?_⟩
  · obtain ⟨ob, e, mu⟩ := R.al b hb
    exact ⟨ob, by rw [upd_ne (show b ≠ a from fun z => R.dis a ha (by rw [← z]; exact hb))]; exact e, mu⟩
  · by_cases hj : i = j
    · subst hj
      have hi : i < h.length := by rw [← R.len]; exact (List.getElem?_eq_some_iff.mp hm).1
      rw [List.getElem?_set_self hi] at e1
      cases e1
      rw [hm] at e2
      cases e2
      exact ok E
    · rw [List.getElem?_set_ne hj] at e1
      have hba : b ≠ a := by
        rintro rfl
        have h1 := (List.getElem?_eq_some_iff.mp hm)
        have h2 := (List.getElem?_eq_some_iff.mp e2)
        obtain ⟨l1, p1⟩ := h1
        obtain ⟨l2, p2⟩ := h2
        exact hj ((List.getElem_inj R.nd).mp (p1.trans p2.symm))
      have q := R.obj j o b e1 e2
      cases o with
      | lst l => obtain ⟨xs, e, r⟩ := q; exact ⟨xs, by rw [upd_ne hba]; exact e, r.ext R E⟩
      | dic l => obtain ⟨xs, e, r⟩ := q; exact ⟨xs, by rw [upd_ne hba]; exact e, r.1, r.2.ext R E⟩
      | ins c f => obtain ⟨dx, gs, e, r⟩ := q; exact ⟨dx, gs, by rw [upd_ne hba]; exact e, r.1, r.2.ext R E⟩
end

/-! ### arithmetic -/
def big64 (i : Int) : Bool := decide (-(2 ^ 64) < i) && decide (i < 2 ^ 64)
def vAdd (v u : Val) (h : Hv) : Res Val := match v, u with
  | .int i, .int j => .ok (.int (i + j)) h
  | .str a, .str b => if a.length + b.length ≤ lineN then .ok (.str (a ++ b)) h else .fail
  | .tup a, .tup b => if a.length + b.length ≤ lineN then .ok (.tup (a ++ b)) h else .fail
  | v, u => match lstOf h v, lstOf h u with
    | some a, some b => if a.length + b.length ≤ lineN then .ok (.lst (a ++ b)) h else .fail
    | _, _ => .fail
def vSub (v u : Val) (h : Hv) : Res Val := match v, u with
  | .int i, .int j => .ok (.int (i - j)) h
  | _, _ => .fail
def vMul (v u : Val) (h : Hv) : Res Val := match v, u with
  | .int i, .int j => if big64 i || big64 j then .ok (.int (i * j)) h else .fail
  | .lst l, .int k => if -(2 ^ 63) ≤ k ∧ k < 2 ^ 63 ∧ l.length * k.toNat ≤ lineN then .ok (.lst (List.replicate k.toNat l).flatten) h else .fail
  | _, _ => .fail
def vDiv (v u : Val) (h : Hv) : Res Val := match v, u with
  | .int i, .int j => if 0 < j ∧ j < 1073741824 then .ok (.int (i / j)) h else .fail
  | _, _ => .fail
def vMod (v u : Val) (h : Hv) : Res Val := match v, u with
  | .int i, .int j => if 0 < j then .ok (.int (i % j)) h else .fail
  | _, _ => .fail
def vPow (v u : Val) (h : Hv) : Res Val := match v, u with
  | .int i, .int j => if 0 ≤ j ∧ j ≤ 1000000 ∧ i.natAbs < 2 ^ 64 then .ok (.int (i ^ j.toNat)) h else .fail
  | _, _ => .fail
def vCmpI (p : Int → Int → Bool) (v u : Val) (h : Hv) : Res Val := match v, u with
  | .int i, .int j => .ok (.bl (p i j)) h
  | _, _ => .fail
section
variable {X : Cx}
theorem sOf_append (a b : List Nat) : sOf a ++ sOf b = sOf (a ++ b) := by
  show (⟨(sOf a).cps ++ (sOf b).cps⟩ : Str) = _
  simp [sOf]
theorem og_add : OpG X (binaryOp .Add) vAdd := by
  refine ⟨_, op_add.or (op_add_str.or (op_catA.or op_cat)), fun W g H h σ v u x y Q R rv ru A => ?_⟩
  have lists : ∀ (A : After X.K W (vr X.K) σ g H Q (match lstOf h v, lstOf h u with
    | some a, some b => if a.length + b.length ≤ lineN then .ok (.lst (a ++ b)) h else .fail
    | _, _ => .fail)), rCat x y H Q := by
    intro A
    split at A
    · rename_i a b e1 e2
      split at A
      · rename_i hl
        obtain ⟨p, xs, rfl, s1, r1⟩ := lstOf_ok R rv e1
        obtain ⟨q, ys, rfl, s2, r2⟩ := lstOf_ok R ru e2
        refine ⟨p, q, xs, ys, rfl, rfl, s1, s2, by rw [← r1.length, ← r2.length]; exact line_ok hl, fun b np => ?_⟩
        obtain ⟨E, R1⟩ := R.grow (o := .lst (xs ++ ys)) np
        refine A g _ (.ref b) E R1 ?_
        simp only [VR]
        exact ⟨b, _, rfl, R.fresh np, upd_same, (r1.append r2).ext R E⟩
      · exact A.elim
    · exact A.elim
  unfold vAdd at A
  split at A
  · simp only [VR] at rv ru
    subst rv ru
    exact .inl ⟨_, _, rfl, rfl, A g H _ Ext.refl R (by simp only [VR])⟩
  · rename_i a b
    simp only [VR] at rv ru
    subst rv ru
    split at A
    · rename_i hl
      exact .inr (.inl ⟨_, _, rfl, rfl, by rw [sOf_len, sOf_len]; exact line_ok hl, A g H _ Ext.refl R (by simp only [VR]; rw [sOf_append])⟩)
    · exact A.elim
  · rename_i a b
    split at A
    · rename_i hl
      simp only [VR] at rv ru
      obtain ⟨p, xs, rfl, s1, r1⟩ := rv
      obtain ⟨q, ys, rfl, s2, r2⟩ := ru
      refine .inr (.inr (.inl ⟨p, q, xs, ys, rfl, rfl, s1, s2, by rw [← r1.length, ← r2.length]; exact line_ok hl, fun e => ?_, fun e e' => ?_, fun _ _ b np => ?_⟩))
      · subst e
        refine A g H _ Ext.refl R ?_
        simp only [VR]
        exact ⟨q, ys, rfl, s2, by simpa using r1.append r2⟩
      · subst e'
        refine A g H _ Ext.refl R ?_
        simp only [VR]
        exact ⟨p, xs, rfl, s1, by simpa using r1.append r2⟩
      · obtain ⟨E, R1⟩ := R.grow (o := .tup (xs ++ ys)) np
        refine A g _ (.ref b) E R1 ?_
        simp only [VR]
        exact ⟨b, _, rfl, SqT.of upd_same, (r1.append r2).ext R E⟩
    · exact A.elim
  · exact .inr (.inr (.inr (lists A)))
theorem og_int {op : Value → Value → Sem Value} {C : Int → Int → Prop} {f : Int → Int → V} {d : Val → Val → Hv → Res Val} (ho : OpR X op (rI C f))
    (hd : ∀ (W : WX) (g : Gh) (H : Hp) (h : Hv) (σ : L2.St) (v u : Val) (Q : VK), HR X.K g H h → After X.K W (vr X.K) σ g H Q (d v u h) → ∃ i j, v = .int i ∧ u = .int j ∧ C i j ∧ Q (f i j) H) : OpG X op d := by
  refine ⟨_, ho, fun W g H h σ v u x y Q R rv ru A => ?_⟩
  obtain ⟨i, j, rfl, rfl, c, q⟩ := hd W g H h σ v u Q R A
  simp only [VR] at rv ru
  exact ⟨i, j, rv, ru, c, q⟩
theorem og_int0 {op : Value → Value → Sem Value} {f : Int → Int → V} {d : Val → Val → Hv → Res Val} (ho : OpR X op (rI0 f))
    (hd : ∀ (W : WX) (g : Gh) (H : Hp) (h : Hv) (σ : L2.St) (v u : Val) (Q : VK), HR X.K g H h → After X.K W (vr X.K) σ g H Q (d v u h) → ∃ i j, v = .int i ∧ u = .int j ∧ Q (f i j) H) : OpG X op d := by
  refine ⟨_, ho, fun W g H h σ v u x y Q R rv ru A => ?_⟩
  obtain ⟨i, j, rfl, rfl, q⟩ := hd W g H h σ v u Q R A
  simp only [VR] at rv ru
  exact ⟨i, j, rv, ru, q⟩
theorem og_sub : OpG X (binaryOp .Sub) vSub := og_int0 op_sub fun W g H h σ v u Q R A => by
  unfold vSub at A
  split at A
  · exact ⟨_, _, rfl, rfl, A g H _ Ext.refl R (by simp only [VR])⟩
  · exact A.elim
theorem og_div : OpG X (binaryOp .FloorDiv) vDiv := og_int op_fdiv fun W g H h σ v u Q R A => by
  unfold vDiv at A
  split at A
  · split at A
    · rename_i c
      exact ⟨_, _, rfl, rfl, c, A g H _ Ext.refl R (by simp only [VR])⟩
    · exact A.elim
  · exact A.elim
theorem og_mod : OpG X (binaryOp .Mod) vMod := og_int op_mod fun W g H h σ v u Q R A => by
  unfold vMod at A
  split at A
  · split at A
    · rename_i c
      exact ⟨_, _, rfl, rfl, c, A g H _ Ext.refl R (by simp only [VR])⟩
    · exact A.elim
  · exact A.elim
theorem og_pow : OpG X (binaryOp .Pow) vPow := og_int op_pow fun W g H h σ v u Q R A => by
  unfold vPow at A
  split at A
  · split at A
    · rename_i c
      exact ⟨_, _, rfl, rfl, c, A g H _ Ext.refl R (by simp only [VR])⟩
    · exact A.elim
  · exact A.elim
theorem big64_ok {i : Int} (h : big64 i = true) : -(2 ^ 64) < i ∧ i < 2 ^ 64 := by
  simpa [big64] using h
theorem og_mul : OpG X (binaryOp .Mult) vMul := by
  refine ⟨_, op_mul.or op_rep, fun W g H h σ v u x y Q R rv ru A => ?_⟩
  unfold vMul at A
  split at A
  · split at A
    · rename_i c
      simp only [VR] at rv ru
      subst rv ru
      refine .inl ⟨_, _, rfl, rfl, ?_, A g H _ Ext.refl R (by simp only [VR])⟩
      rcases Bool.or_eq_true_iff.mp c with c | c
      · exact .inl (big64_ok c)
      · exact .inr (big64_ok c)
    · exact A.elim
  · rename_i l k
    split at A
    · rename_i c
      simp only [VR] at rv ru
      subst ru
      obtain ⟨p, xs, rfl, n, s1, r1⟩ := rv
      refine .inr ⟨p, k, xs, rfl, rfl, s1, c.1, c.2.1, by rw [← r1.length]; exact line_ok c.2.2, fun b np => ?_⟩
      obtain ⟨E, R1⟩ := R.grow (o := .lst (List.replicate k.toNat xs).flatten) np
      refine A g _ (.ref b) E R1 ?_
      simp only [VR]
      refine ⟨b, _, rfl, R.fresh np, upd_same, ?_⟩
      have rep : ∀ n : Nat, VRs X.K g H (List.replicate n l).flatten (List.replicate n xs).flatten := by
        intro n
        induction n with
        | zero => simpa using VRs.nil
        | succ n ih => rw [List.replicate_succ, List.replicate_succ, List.flatten_cons, List.flatten_cons]; exact r1.append ih
      exact (rep _).ext R E
    · exact A.elim
  · exact A.elim
theorem og_cmpI {op : CmpOp} {p : Int → Int → Bool} (ho : OpR X (compareOp op) (rI0 fun i j => .bl (p i j))) : OpG X (compareOp op) (vCmpI p) := og_int0 ho fun W g H h σ v u Q R A => by
  unfold vCmpI at A
  split at A
  · exact ⟨_, _, rfl, rfl, A g H _ Ext.refl R (by simp only [VR])⟩
  · exact A.elim
abbrev vLt := vCmpI fun i j => decide (i < j)
abbrev vLe := vCmpI fun i j => decide (i ≤ j)
abbrev vGt := vCmpI fun i j => decide (j < i)
abbrev vGe := vCmpI fun i j => decide (j ≤ i)
theorem og_lt : OpG X (compareOp .Lt) vLt := og_cmpI op_lt
theorem og_le : OpG X (compareOp .LtE) vLe := og_cmpI op_le
theorem og_gt : OpG X (compareOp .Gt) vGt := og_cmpI op_gt
theorem og_ge : OpG X (compareOp .GtE) vGe := og_cmpI op_ge
def isNon : Val → Bool
  | .non => true
  | _ => false
def vIsN (v u : Val) (h : Hv) : Res Val := match u with
  | .non => .ok (.bl (isNon v)) h
  | _ => .fail
def vNotN (v u : Val) (h : Hv) : Res Val := match u with
  | .non => .ok (.bl (!isNon v)) h
  | _ => .fail
theorem VR.non_iff {K : PySem.W.Frag} {g : Gh} {H : Hp} {v : Val} {x : V} (r : VR K g H v x) : decide (x = .non) = isNon v := by
  cases v <;> simp only [VR] at r <;> first | (subst r; rfl) | (obtain ⟨_, _, _, rfl, _⟩ := r; rfl) | (obtain ⟨_, _, rfl, _⟩ := r; rfl) | (obtain ⟨_, rfl, _⟩ := r; rfl)
theorem og_isN : OpG X (compareOp .Is) vIsN := by
  refine ⟨_, op_isN, fun W g H h σ v u x y Q R rv ru A => ?_⟩
  unfold vIsN at A
  split at A
  · simp only [VR] at ru
    refine ⟨ru, ?_⟩
    rw [rv.non_iff]
    exact A g H _ Ext.refl R (by simp only [VR])
  · exact A.elim
theorem og_notN : OpG X (compareOp .IsNot) vNotN := by
  refine ⟨_, op_notN, fun W g H h σ v u x y Q R rv ru A => ?_⟩
  unfold vNotN at A
  split at A
  · simp only [VR] at ru
    refine ⟨ru, ?_⟩
    rw [rv.non_iff]
    exact A g H _ Ext.refl R (by simp only [VR])
  · exact A.elim
/-- -e -/
def dNeg (d : Den) : Den := fun l h => (d l h).bind fun v h1 => match v with
  | .int i => .ok (.int (-i)) h1
  | _ => .fail
theorem ge_neg {W : WX} {a : Expr} {d : Den} {pos : Pos} (ha : GE X W a d) : GE X W (.UnaryOp .USub a pos) (dNeg d) := by
  refine PE.imp (pe_un un_neg ha) fun σ H Q ⟨g, l, h, S, R, A⟩ => ?_
  refine tG_of S R A fun v h1 g1 H1 x E S1 R1 r1 A1 => ?_
  cases v with
  | int i =>
    simp only [VR] at r1
    exact ⟨i, r1, A1 g1 H1 _ Ext.refl R1 (by simp only [VR])⟩
  | _ => exact A1.elim

/-! ### dicts as lists of pairs -/
def kEq : Val → Val → Bool
  | .int i, .int j => decide (i = j)
  | .str a, .str b => decide (a = b)
  | _, _ => false
def dGet (l : List (Val × Val)) (k : Val) : Option Val := (l.find? fun p => kEq p.1 k).map (·.2)
def dPut (l : List (Val × Val)) (k v : Val) : List (Val × Val) := if (l.any fun p => kEq p.1 k) then l.map (fun p => if kEq p.1 k then (p.1, v) else p) else l ++ [(k, v)]
def dDrop (l : List (Val × Val)) (k : Val) : List (Val × Val) := l.filter fun p => !kEq p.1 k
theorem kEq_key {a b : Val} {ka kb : Key} (ha : keyOf a = some ka) (hb : keyOf b = some kb) : kEq a b = decide (ka = kb) := by
  cases a <;> simp only [keyOf, Option.some.injEq, reduceCtorEq] at ha <;> cases b <;> simp only [keyOf, Option.some.injEq, reduceCtorEq] at hb <;> subst ha hb
  · rename_i i j
    simp only [kEq]
    by_cases e : i = j
    · subst e; simp
    · rw [decide_eq_false e, decide_eq_false (fun z => e (Sum.inl.inj z))]
  · simp [kEq]
  · simp [kEq]
  · rename_i i j
    simp only [kEq]
    by_cases e : i = j
    · subst e; simp
    · rw [decide_eq_false e, decide_eq_false (fun z => e (sOf_inj (Sum.inr.inj z)))]
section
variable {K : PySem.W.Frag} {g : Gh} {H : Hp}
theorem DR.nil : DR K g H [] [] := ⟨rfl, VRs.nil⟩
theorem DR.inv {l : List (Val × Val)} {p : Val × Val} {ks : List (Key × V)} (r : DR K g H (p :: l) ks) : ∃ q ks', ks = q :: ks' ∧ keyOf p.1 = some q.1 ∧ VR K g H p.2 q.2 ∧ DR K g H l ks' := by
  obtain ⟨e, r⟩ := r
  cases ks with
  | nil => simp at e
  | cons q ks' =>
    simp only [List.map_cons, List.cons.injEq] at e
    simp only [List.map_cons, VRs] at r
    obtain ⟨x, r', e1, q1, q2⟩ := r
    cases e1
    exact ⟨q, ks', rfl, e.1, q1, e.2, q2⟩
theorem DR.cons {l : List (Val × Val)} {p : Val × Val} {ks : List (Key × V)} {q : Key × V} (e : keyOf p.1 = some q.1) (r : VR K g H p.2 q.2) (t : DR K g H l ks) : DR K g H (p :: l) (q :: ks) :=
  ⟨by simp [e, t.1], by simp only [List.map_cons]; exact .cons r t.2⟩
theorem DR.nilInv {ks : List (Key × V)} (r : DR K g H [] ks) : ks = [] := by
  obtain ⟨e, _⟩ := r
  cases ks with
  | nil => rfl
  | cons q ks' => simp at e
theorem DR.length : ∀ {l : List (Val × Val)} {ks : List (Key × V)}, DR K g H l ks → l.length = ks.length
  | [], ks, r => by rw [r.nilInv]; rfl
  | p :: l, ks, r => by obtain ⟨q, ks', rfl, _, _, t⟩ := r.inv; simp [DR.length t]
theorem DR.get {k : Val} {kk : Key} (hk : keyOf k = some kk) : ∀ {l : List (Val × Val)} {ks : List (Key × V)}, DR K g H l ks → (∀ v, dGet l k = some v → ∃ x, valV ks kk = some x ∧ VR K g H v x) ∧ (dGet l k = none → valV ks kk = none)
  | [], ks, r => by rw [r.nilInv]; exact ⟨fun v e => by simp [dGet] at e, fun _ => rfl⟩
  | p :: l, ks, r => by
    obtain ⟨q, ks', rfl, e, rv, t⟩ := r.inv
    have ih := DR.get hk t
    have ek := kEq_key e hk
    by_cases c : q.1 = kk
    · rw [decide_eq_true c] at ek
      have e1 : dGet (p :: l) k = some p.2 := by simp [dGet, ek]
      rw [e1, valV_pos c]
      exact ⟨fun v z => by cases z; exact ⟨_, rfl, rv⟩, fun z => by cases z⟩
    · rw [decide_eq_false c] at ek
      have e1 : dGet (p :: l) k = dGet l k := by simp [dGet, ek]
      rw [e1, valV_neg c]
      exact ih
theorem DR.any {k : Val} {kk : Key} (hk : keyOf k = some kk) : ∀ {l : List (Val × Val)} {ks : List (Key × V)}, DR K g H l ks → (l.any fun p => kEq p.1 k) = (ks.any fun kv => decide (kv.1 = kk))
  | [], ks, r => by rw [r.nilInv]; rfl
  | p :: l, ks, r => by
    obtain ⟨q, ks', rfl, e, rv, t⟩ := r.inv
    simp only [List.any_cons, kEq_key e hk, DR.any hk t]
theorem DR.repl {k v : Val} {kk : Key} {x : V} (hk : keyOf k = some kk) (rx : VR K g H v x) : ∀ {l : List (Val × Val)} {ks : List (Key × V)}, DR K g H l ks → DR K g H (l.map fun p => if kEq p.1 k then (p.1, v) else p) (ks.map fun kv => if kv.1 = kk then (kv.1, x) else kv)
  | [], ks, r => by rw [r.nilInv]; exact DR.nil
  | p :: l, ks, r => by
    obtain ⟨q, ks', rfl, e, rv, t⟩ := r.inv
    simp only [List.map_cons, kEq_key e hk]
    by_cases c : q.1 = kk
    · simp only [c, decide_true, if_true]
      exact .cons (by show keyOf p.1 = some kk; rw [e, c]) rx (DR.repl hk rx t)
    · simp only [c, decide_false, if_false, Bool.false_eq_true]
      exact .cons e rv (DR.repl hk rx t)
theorem DR.append {l l' : List (Val × Val)} {ks ks' : List (Key × V)} (a : DR K g H l ks) (b : DR K g H l' ks') : DR K g H (l ++ l') (ks ++ ks') :=
  ⟨by simp [a.1, b.1], by simpa using a.2.append b.2⟩
theorem DR.put {k v : Val} {kk : Key} {x : V} {l : List (Val × Val)} {ks : List (Key × V)} (r : DR K g H l ks) (hk : keyOf k = some kk) (rx : VR K g H v x) : DR K g H (dPut l k v) (putK ks kk x) := by
  unfold dPut putK
  rw [DR.any hk r]
  by_cases c : (ks.any fun kv => decide (kv.1 = kk)) = true
  · rw [if_pos c, if_pos c]
    exact DR.repl hk rx r
  · rw [if_neg c, if_neg c]
    exact r.append (.cons hk rx .nil)
theorem DR.drop {k : Val} {kk : Key} (hk : keyOf k = some kk) : ∀ {l : List (Val × Val)} {ks : List (Key × V)}, DR K g H l ks → DR K g H (dDrop l k) (dropK ks kk)
  | [], ks, r => by rw [r.nilInv]; exact DR.nil
  | p :: l, ks, r => by
    obtain ⟨q, ks', rfl, e, rv, t⟩ := r.inv
    unfold dDrop dropK
    have ih := DR.drop hk t
    unfold dDrop dropK at ih
    rw [List.filter_cons, List.filter_cons, kEq_key e hk]
    by_cases c : q.1 = kk
    · rw [if_neg (by simp [c]), if_neg (by simp [c])]
      exact ih
    · rw [if_pos (by simp [c]), if_pos (by simp [c])]
      exact .cons e rv ih
theorem key_V {v : Val} {x : V} {k : Key} (r : VR K g H v x) (e : keyOf v = some k) : x = kV k := by
  cases v <;> simp only [keyOf, Option.some.injEq, reduceCtorEq] at e <;> subst e <;> simp only [VR] at r <;> exact r
end

/-! ### a[b] -/
/-- the item at an index of any sign -/
def nth {α : Type} (l : List α) (i : Int) : Option α := if 0 ≤ i then l[i.toNat]? else if -(l.length : Int) ≤ i then l[(i + l.length).toNat]? else none
theorem nth_atI {α : Type} {l : List α} {i : Int} {v : α} (h : nth l i = some v) : atI l i = some v := by
  unfold nth at h
  unfold atI ixN
  split at h
  · rename_i h0
    have hl := (List.getElem?_eq_some_iff.mp h).1
    rw [if_pos h0, if_pos (by omega)]
    exact h
  · rename_i h0
    split at h
    · rename_i h1
      rw [if_neg h0, if_pos h1]
      exact h
    · cases h
theorem VRs.nth {K : PySem.W.Frag} {g : Gh} {H : Hp} {l : List Val} {xs : List V} {i : Int} {v : Val} (r : VRs K g H l xs) (h : GH.nth l i = some v) : ∃ x, atI xs i = some x ∧ VR K g H v x := by
  have hl := r.length
  unfold GH.nth at h
  split at h
  · rename_i h0
    obtain ⟨x, e, q⟩ := r.get h
    exact ⟨x, nth_atI (by unfold GH.nth; rw [if_pos h0]; exact e), q⟩
  · rename_i h0
    split at h
    · rename_i h1
      obtain ⟨x, e, q⟩ := r.get h
      exact ⟨x, nth_atI (by unfold GH.nth; rw [if_neg h0, if_pos (by omega), ← hl]; exact e), q⟩
    · cases h
def vIx (v u : Val) (h : Hv) : Res Val := match v with
  | .str s => match u with
    | .int i => if s.length ≤ lineN then (match nth s i with
      | some c => .ok (.str [c]) h
      | none => .fail) else .fail
    | _ => .fail
  | v => match seqOf h v with
    | some l => (match u with
      | .int i => (match nth l i with
        | some w => .ok w h
        | none => .fail)
      | _ => .fail)
    | none => match dicOf h v, keyOf u with
      | some l, some _ => (match dGet l u with
        | some w => .ok w h
        | none => .fail)
      | _, _ => .fail
def rIxD : R2 := fun x y H Q => ∃ a v, x = .ref a ∧ DGet H a y (some v) ∧ Q v H
theorem ix_dict (hu : X.A.units + 1 < cLine) : IxR X rIxD := by
  intro value slice pins s σ H x y v u Q I rx ry h hs
  obtain ⟨a, z, rfl, d, q⟩ := h
  obtain rfl : v = Value.ref a := rx
  exact tail_any (dict_typeIs I d) PySem.F.slot_dict_getitem.lookup (d_getItem hu I d ry fun w' s' I' r' => ⟨z, H, I', r', q⟩) hs
theorem vIx_ok {W : WX} {g : Gh} {H : Hp} {h : Hv} {σ : L2.St} {v u : Val} {x y : V} {Q : VK} (R : HR X.K g H h) (rv : VR X.K g H v x) (ru : VR X.K g H u y) (A : After X.K W (vr X.K) σ g H Q (vIx v u h)) : rIx X.K x y H Q ∨ rIxD x y H Q := by
  unfold vIx at A
  split at A
  · rename_i s
    split at A
    · rename_i i
      split at A
      · rename_i hl
        split at A
        · rename_i c e
          simp only [VR] at rv ru
          subst rv ru
          exact .inl (.inr (.inr ⟨_, i, c, rfl, rfl, by rw [sOf_len]; exact line_ok hl, by simpa [sOf] using nth_atI e, A g H _ Ext.refl R (by simp only [VR]; rfl)⟩))
        · exact A.elim
      · exact A.elim
    · exact A.elim
  · rename_i hns
    split at A
    · rename_i l hl
      obtain ⟨a, xs, rfl, s, r⟩ := seqOf_ok R rv hl
      split at A
      · rename_i i
        split at A
        · rename_i w e
          simp only [VR] at ru
          subst ru
          obtain ⟨z, e', rz⟩ := VRs.nth r e
          rcases s with s | s
          · exact .inl (.inl ⟨a, xs, i, z, rfl, rfl, s, e', A g H _ Ext.refl R rz⟩)
          · exact .inl (.inr (.inl ⟨a, xs, i, z, rfl, rfl, s, e', A g H _ Ext.refl R rz⟩))
        · exact A.elim
      · exact A.elim
    · split at A
      · rename_i l k hl hk
        split at A
        · rename_i w e
          obtain ⟨i, a, ks, rfl, rfl, hm, hi, ha, d⟩ := dicOf_ok R rv hl
          obtain ⟨z, e', rz⟩ := (DR.get hk d).1 w e
          refine .inr ⟨a, z, rfl, ?_, A g H _ Ext.refl R rz⟩
          rw [key_V ru hk, ← e']
          exact DGet.k ha
        · exact A.elim
      · exact A.elim
theorem ge_ix {W : WX} {a b : Expr} {da db : Den} {pos : Pos} (hu : X.A.units + 1 < cLine) (ha : GE X W a da) (hb : GE X W b db) (hs : PlainIx b := by exact fun _ _ => rfl) : GE X W (.Subscript a b pos) (dBin vIx da db) := by
  refine PE.imp (pe_ix (ix_seq.or (ix_dict hu)) ha hb hs) fun σ H Q ⟨g, l, h, S, R, A⟩ => ?_
  refine tG_of S R A fun v h1 g1 H1 x E S1 R1 r1 A1 => ?_
  refine tG_of S1 R1 A1 fun u h2 g2 H2 y E2 S2 R2 r2 A2 => ?_
  exact vIx_ok R2 (r1.ext R1 E2) r2 A2

/-! ### len, truth -/
def vLen (v : Val) (h : Hv) : Res Val := match v with
  | .str s => if s.length ≤ lineN then .ok (.int s.length) h else .fail
  | v => match seqOf h v with
    | some l => .ok (.int l.length) h
    | none => match dicOf h v with
      | some l => .ok (.int l.length) h
      | none => .fail
theorem call_lenG : CallR X (.builtin "len") (fun xs H Q => (∃ x n, xs = [x] ∧ LenV X.K x H n ∧ Q (.int n) H) ∨ ∃ a kvs, xs = [.ref a] ∧ Rd H a (.dK kvs) ∧ Q (.int kvs.length) H) := by
  intro pins s σ H xs us Q I r h
  rcases h with h | ⟨a, kvs, rfl, e, q⟩
  · exact call_len pins s σ H xs us Q I r h
  · obtain ⟨u, rfl, ru⟩ := vals1 r
    obtain rfl : u = Value.ref a := ru
    exact d_len I e fun t s' I' => ⟨.int kvs.length, H, I', ⟨_, rfl⟩, q⟩
def dLen (d : Den) : Den := fun l h => (d l h).bind vLen
theorem ge_len {W : WX} {e : Expr} {d : Den} {x : Str} {p pos : Pos} (he : GE X W e d) (hm : X.mg x = none) (hg : Gl X x := by rfl) (hv : bootBuiltins x = some (.builtin "len") := by decide +kernel) (hn : x ≠ "__name__" := by decide +kernel) (hdb : (x == ("__debug__" : Str)) = false := by decide +kernel)
    (hst : starEach [e] X.env = (false, eval e X.env) :: starEach [] X.env := by rfl) (hpl : (backTo pos (starEach [] X.env)).any (·.1) = false := by rfl) : GE X W (.Call (.Name x p) [e] [] pos) (dLen d) := by
  refine PE.imp (pe_callB call_lenG hg hm hv (pa_cons he pa_nil hst) hn hdb hst hpl) fun σ H Q ⟨g, l, h, S, R, A⟩ => ?_
  refine tG_of S R A fun v h1 g1 H1 x E S1 R1 r1 A1 => ?_
  show _ ∨ _
  unfold vLen at A1
  split at A1
  · rename_i s
    split at A1
    · rename_i hl
      simp only [VR] at r1
      subst r1
      exact .inl ⟨_, _, rfl, ⟨by rw [sOf_len]; exact line_ok hl, rfl⟩, by rw [sOf_len]; exact A1 g1 H1 _ Ext.refl R1 (by simp only [VR])⟩
    · exact A1.elim
  · split at A1
    · rename_i k hk
      obtain ⟨a, xs, rfl, s, r⟩ := seqOf_ok R1 r1 hk
      refine .inl ⟨_, xs.length, rfl, ?_, by rw [← r.length]; exact A1 g1 H1 _ Ext.refl R1 (by simp only [VR])⟩
      rcases s with s | s
      · exact .inl ⟨xs, s, rfl⟩
      · exact .inr ⟨xs, s, rfl⟩
    · split at A1
      · rename_i k hk
        obtain ⟨i, a, ks, rfl, rfl, hm, hi, ha, d⟩ := dicOf_ok R1 r1 hk
        exact .inr ⟨a, ks, rfl, .inl ha, by rw [← d.length]; exact A1 g1 H1 _ Ext.refl R1 (by simp only [VR])⟩
      · exact A1.elim
def vTru (v : Val) (h : Hv) : Res Bool := match v with
  | .non => .ok false h
  | .bl b => .ok b h
  | .int i => .ok (i != 0) h
  | .str s => if s.length ≤ lineN then .ok (!s.isEmpty) h else .fail
  | v => match seqOf h v with
    | some l => .ok (!l.isEmpty) h
    | none => match dicOf h v with
      | some l => .ok (!l.isEmpty) h
      | none => .fail
theorem isEmpty_len {α β : Type} {l : List α} {l' : List β} (h : l.length = l'.length) : l.isEmpty = l'.isEmpty := by
  cases l <;> cases l' <;> simp_all
theorem vTru_ok {W : WX} {g : Gh} {H : Hp} {h : Hv} {σ : L2.St} {v : Val} {x : V} {Q : Bool → Hp → Prop} (R : HR X.K g H h) (rv : VR X.K g H v x) (A : After X.K W br σ g H Q (vTru v h)) : ∃ k, TruV X.K x H k ∧ Q k H := by
  unfold vTru at A
  split at A
  · simp only [VR] at rv; subst rv; exact ⟨_, rfl, A g H _ Ext.refl R rfl⟩
  · simp only [VR] at rv; subst rv; exact ⟨_, rfl, A g H _ Ext.refl R rfl⟩
  · simp only [VR] at rv; subst rv; exact ⟨_, rfl, A g H _ Ext.refl R rfl⟩
  · rename_i s
    split at A
    · rename_i hl
      simp only [VR] at rv
      subst rv
      refine ⟨_, ⟨by rw [sOf_len]; exact line_ok hl, rfl⟩, ?_⟩
      rw [sOf_len]
      have e : ((s.length : Int) != 0) = !s.isEmpty := by cases s <;> simp <;> omega
      rw [e]
      exact A g H _ Ext.refl R rfl
    · exact A.elim
  · split at A
    · rename_i k hk
      obtain ⟨a, xs, rfl, s, r⟩ := seqOf_ok R rv hk
      refine ⟨!xs.isEmpty, ?_, by rw [← isEmpty_len r.length]; exact A g H _ Ext.refl R rfl⟩
      rcases s with s | s
      · exact .inl ⟨xs, s, rfl⟩
      · exact .inr (.inl ⟨xs, s, rfl⟩)
    · split at A
      · rename_i k hk
        obtain ⟨i, a, ks, rfl, rfl, hm, hi, ha, d⟩ := dicOf_ok R rv hk
        exact ⟨!ks.isEmpty, .inr (.inr ⟨ks, ha, rfl⟩), by rw [← isEmpty_len d.length]; exact A g H _ Ext.refl R rfl⟩
      · exact A.elim
def dTru (d : Den) : DenG Bool := fun l h => (d l h).bind vTru
theorem gt_tru {W : WX} {e : Expr} {d : Den} (he : GE X W e d) (hs : ∀ whole, isTrue e X.env whole = (do let v ← whole; standAt e.pos; holding [v] (truthy v)) := by intro _; rfl) : GT X W e (dTru d) := by
  refine PT.imp (pt_truth he hs) fun σ H Q ⟨g, l, h, S, R, A⟩ => ?_
  exact tG_of S R A fun v h1 g1 H1 x E S1 R1 r1 A1 => vTru_ok R1 r1 A1
end
end GH
set_option Elab.async false
set_option linter.all false
set_option maxRecDepth 100000
set_option maxHeartbeats 1000000
set_option autoImplicit false
/-! Loops and comprehensions. -/
namespace GH
open PySem PySem.Spec PyProof.Rows L2

/-- behind a loop's body -/
def SRes.turn (r : SRes) (k : Stm) : SRes := match r with
  | .nx l h => k l h
  | .ct l h => k l h
  | .bk l h => .nx l h
  | r => r
@[simp] theorem SRes.turn_nx (l : Loc) (h : Hv) (k : Stm) : (SRes.nx l h).turn k = k l h := rfl
@[simp] theorem SRes.turn_ct (l : Loc) (h : Hv) (k : Stm) : (SRes.ct l h).turn k = k l h := rfl
@[simp] theorem SRes.turn_bk (l : Loc) (h : Hv) (k : Stm) : (SRes.bk l h).turn k = .nx l h := rfl
@[simp] theorem SRes.turn_rt (v : Val) (h : Hv) (k : Stm) : (SRes.rt v h).turn k = .rt v h := rfl
@[simp] theorem SRes.turn_exc (e : Ex) (l : Loc) (h : Hv) (k : Stm) : (SRes.exc e l h).turn k = .exc e l h := rfl
@[simp] theorem SRes.turn_fail (k : Stm) : SRes.fail.turn k = .fail := rfl

/-! ### while -/
def whileN : Nat → DenG Bool → Stm → Stm
  | 0, _, _ => fun _ _ => .fail
  | n + 1, c, b => fun l h => (c l h).to l fun t h1 => if t = true then (b l h1).turn (whileN n c b) else .nx l h1
theorem whileN_mono (c : DenG Bool) (b : Stm) : ∀ (n : Nat) (l : Loc) (h : Hv), whileN n c b l h ≠ .fail → whileN (n + 1) c b l h = whileN n c b l h
  | 0, l, h, e => absurd rfl e
  | n + 1, l, h, e => by
    show (c l h).to l (fun t h1 => if t = true then (b l h1).turn (whileN (n + 1) c b) else .nx l h1) = (c l h).to l (fun t h1 => if t = true then (b l h1).turn (whileN n c b) else .nx l h1)
    have e : (c l h).to l (fun t h1 => if t = true then (b l h1).turn (whileN n c b) else .nx l h1) ≠ .fail := e
    cases ec : c l h with
    | ok t h1 =>
      rw [ec] at e
      simp only [Res.to_ok] at e ⊢
      cases t with
      | false => rfl
      | true =>
        simp only [if_true] at e ⊢
        cases eb : b l h1 with
        | nx l2 h2 => rw [eb] at e; exact whileN_mono c b n l2 h2 e
        | ct l2 h2 => rw [eb] at e; exact whileN_mono c b n l2 h2 e
        | bk l2 h2 => rfl
        | rt v h2 => rfl
        | exc x l2 h2 => rfl
        | fail => rfl
    | exc x h1 => rfl
    | fail => rfl
theorem whileN_le (c : DenG Bool) (b : Stm) {n : Nat} {l : Loc} {h : Hv} (e : whileN n c b l h ≠ .fail) : ∀ k, whileN (n + k) c b l h = whileN n c b l h
  | 0 => rfl
  | k + 1 => by
    have ih := whileN_le c b e k
    rw [← Nat.add_assoc, whileN_mono c b (n + k) l h (by rw [ih]; exact e), ih]
open Classical in
noncomputable def sWhile (c : DenG Bool) (b : Stm) : Stm := fun l h => if ex : ∃ n, whileN n c b l h ≠ .fail then whileN (Classical.choose ex) c b l h else .fail
theorem sWhile_of {c : DenG Bool} {b : Stm} {n : Nat} {l : Loc} {h : Hv} (e : whileN n c b l h ≠ .fail) : sWhile c b l h = whileN n c b l h := by
  have ex : ∃ n, whileN n c b l h ≠ .fail := ⟨n, e⟩
  unfold sWhile
  rw [dif_pos ex]
  have e' := Classical.choose_spec ex
  generalize Classical.choose ex = m at e'
  rcases Nat.le_total n m with q | q
  · obtain ⟨k, rfl⟩ := Nat.exists_eq_add_of_le q
    exact whileN_le c b e k
  · obtain ⟨k, rfl⟩ := Nat.exists_eq_add_of_le q
    exact (whileN_le c b e' k).symm
theorem sWhile_ne {c : DenG Bool} {b : Stm} {l : Loc} {h : Hv} (e : sWhile c b l h ≠ .fail) : ∃ n, whileN n c b l h ≠ .fail ∧ sWhile c b l h = whileN n c b l h := by
  unfold sWhile at e
  split at e
  · rename_i ex
    exact ⟨_, e, by unfold sWhile; rw [dif_pos ex]⟩
  · exact absurd rfl e
/-- the loop's own equation -/
theorem sWhile_eq (c : DenG Bool) (b : Stm) (l : Loc) (h : Hv) : sWhile c b l h = (c l h).to l fun t h1 => if t = true then (b l h1).turn (sWhile c b) else .nx l h1 := by
  cases ec : c l h with
  | exc x h1 =>
    have e : whileN 1 c b l h = .exc x l h1 := by show (c l h).to l _ = _; rw [ec]; rfl
    rw [sWhile_of (n := 1) (by rw [e]; exact fun z => nomatch z), e]
    rfl
  | fail =>
    by_cases e : sWhile c b l h = .fail
    · rw [e]; rfl
    · obtain ⟨n, e1, e2⟩ := sWhile_ne e
      cases n with
      | zero => exact absurd rfl e1
      | succ n => exact absurd (by show (c l h).to l _ = _; rw [ec]; rfl) e1
  | ok t h1 =>
    simp only [Res.to_ok]
    cases t with
    | false =>
      have e : whileN 1 c b l h = .nx l h1 := by show (c l h).to l _ = _; rw [ec]; rfl
      rw [sWhile_of (n := 1) (by rw [e]; exact fun z => nomatch z), e]
      rfl
    | true =>
      simp only [if_true]
      have step : ∀ n, whileN (n + 1) c b l h = (b l h1).turn (whileN n c b) := fun n => by show (c l h).to l _ = _; rw [ec]; rfl
      have ends : ∀ r : SRes, r ≠ .fail → (∀ k, (b l h1).turn k = r) → sWhile c b l h = (b l h1).turn (sWhile c b) := fun r nr hr => by
        rw [sWhile_of (n := 1) (by rw [step, hr]; exact nr), step, hr, hr]
      have goes : ∀ l2 h2, (∀ k : Stm, (b l h1).turn k = k l2 h2) → sWhile c b l h = (b l h1).turn (sWhile c b) := fun l2 h2 hk => by
        rw [hk]
        by_cases e : sWhile c b l2 h2 = .fail
        · rw [e]
          by_cases e' : sWhile c b l h = .fail
          · exact e'
          · obtain ⟨n, e1, e2⟩ := sWhile_ne e'
            cases n with
            | zero => exact absurd rfl e1
            | succ n =>
              rw [step, hk] at e1
              exact absurd (sWhile_of e1 ▸ e) e1
        · obtain ⟨n, e1, e2⟩ := sWhile_ne e
          rw [sWhile_of (n := n + 1) (by rw [step, hk]; exact e1), step, hk, e2]
      cases eb : b l h1 with
      | nx l2 h2 => rw [← eb]; exact goes l2 h2 fun k => by rw [eb]; rfl
      | ct l2 h2 => rw [← eb]; exact goes l2 h2 fun k => by rw [eb]; rfl
      | bk l2 h2 => rw [← eb]; exact ends (.nx l2 h2) (fun z => nomatch z) fun k => by rw [eb]; rfl
      | rt v h2 => rw [← eb]; exact ends (.rt v h2) (fun z => nomatch z) fun k => by rw [eb]; rfl
      | exc x l2 h2 => rw [← eb]; exact ends (.exc x l2 h2) (fun z => nomatch z) fun k => by rw [eb]; rfl
      | fail =>
        show sWhile c b l h = .fail
        by_cases e : sWhile c b l h = .fail
        · exact e
        · obtain ⟨n, e1, e2⟩ := sWhile_ne e
          cases n with
          | zero => exact absurd rfl e1
          | succ n => exact absurd (by rw [step, eb]; rfl) e1
section
variable {X : Cx} {W : WX}
theorem gs_while {c : Expr} {body : List Stmt} {dc : DenG Bool} {db : Stm} {pos : Pos} (hp : PassesOwn (model X.prog X.w) X.A X.env X.xe) (hc : GT X W c dc) (hb : GSs X W body db) : GS X W (.While c body [] pos) (sWhile dc db) := by
  refine PS.imp (ps_while hp hc hb) fun D σ H ⟨g, l, h, S, R, A⟩ => ?_
  have nf : sWhile dc db l h ≠ .fail := fun e => by rw [e] at A; exact A
  obtain ⟨n0, e0, e1⟩ := sWhile_ne nf
  rw [e1] at A
  refine ⟨fun m σ H => ∃ g l h, SR X.K g H l σ ∧ HR X.K g H h ∧ AfterS X.K W g H D (whileN m dc db l h), ⟨n0, g, l, h, S, R, A⟩, ?_⟩
  rintro m σ H ⟨g, l, h, S, R, A⟩
  cases m with
  | zero => exact A.elim
  | succ m =>
    have A : AfterS X.K W g H D ((dc l h).to l fun t h1 => if t = true then (db l h1).turn (whileN m dc db) else .nx l h1) := A
    refine tG_to S R A fun t h1 g1 H1 x E S1 R1 r1 A1 => ?_
    obtain rfl : t = x := r1
    cases t with
    | false => exact A1 g1 H1 σ Ext.refl R1 S1
    | true =>
      simp only [if_true] at A1 ⊢
      refine ⟨fun σ' H' => ∃ g l h, SR X.K g H' l σ' ∧ HR X.K g H' h ∧ AfterS X.K W g H' D (whileN m dc db l h), fun σ' H' q => ⟨m, Nat.lt_succ_self m, q⟩, g1, l, h1, S1, R1, ?_⟩
      cases eb : db l h1 with
      | nx l2 h2 => rw [eb] at A1; exact fun g' H' σ' E' R' S' => ⟨g', l2, h2, S', R', AfterS.ext E' A1⟩
      | ct l2 h2 => rw [eb] at A1; exact fun g' H' σ' E' R' S' => ⟨g', l2, h2, S', R', AfterS.ext E' A1⟩
      | bk l2 h2 => rw [eb] at A1; exact A1
      | rt v h2 => rw [eb] at A1; exact A1
      | exc x l2 h2 => rw [eb] at A1; exact A1
      | fail => rw [eb] at A1; exact A1

/-! ### what is walked -/
/-- the items, and the object of ours that must stay as it is -/
abbrev Src := List Val × Option Nat
def srcOk (s : Src) (h : Hv) : Prop := match s.2 with
  | none => True
  | some j => h[j]? = some (.lst s.1)
/-- the iterator J serves these items -/
def Serves (K : PySem.W.Frag) (J : It) (g0 : Gh) (H0 : Hp) (s : Src) : Prop := ∀ g H h, ExtS g0 H0 g H → HR K g H h → srcOk s h → ∀ i,
  (∀ v, s.1[i]? = some v → J.go i H ∧ ∀ x H', J.yld i H x H' → Ext g H g H' ∧ HR K g H' h ∧ VR K g H' v x) ∧ (i = s.1.length → J.stop i H)
/-- what follows an iterator -/
def AfterI (K : PySem.W.Frag) (W : WX) (σ : L2.St) (g : Gh) (H : Hp) (R : It → Hp → Prop) : Res Src → Prop
  | .ok s h' => srcOk s h' ∧ ∀ g' H' J, Ext g H g' H' → HR K g' H' h' → s.1.length ≤ sizeLine → Serves K J g' H' s → R J H'
  | .exc e h' => ∀ g' H' cls d, Ext g H g' H' → HR K g' H' h' → ER K g' H' e cls d → W cls d σ H'
  | .fail => False
def tI (K : PySem.W.Frag) (W : WX) (d : DenG Src) : TI := fun σ H R => ∃ g l h, SR K g H l σ ∧ HR K g H h ∧ AfterI K W σ g H R (d l h)
def GI (X : Cx) (W : WX) (tg iter : Expr) (d : DenG Src) : Prop := PI X tg iter (tI X.K W d)
theorem PI.imp {tg e : Expr} {t t' : TI} (p : PI X tg e t) (h : ∀ pins s σ H R, Inv X pins σ H s → t' σ H R → t σ H R) : PI X tg e t' := ⟨fun pins s σ H R I q => p.run pins s σ H R I (h pins s σ H R I q)⟩
theorem PI.or {tg e : Expr} {t t' : TI} (p : PI X tg e t) (p' : PI X tg e t') : PI X tg e fun σ H R => t σ H R ∨ t' σ H R := ⟨fun pins s σ H R I q => by
  rcases q with q | q
  · exact p.run pins s σ H R I q
  · exact p'.run pins s σ H R I q⟩

/-! ### for -/
open Classical in
noncomputable def forL (t : Tg) (b : Stm) (s : Src) : List Val → Stm
  | [] => fun l h => if srcOk s h then .nx l h else .fail
  | x :: r => fun l h => if srcOk s h then (match t x l h with
    | .ok l1 h1 => (b l1 h1).turn (forL t b s r)
    | .exc e l1 h1 => .exc e l1 h1
    | .fail => .fail) else .fail
noncomputable def sFor (di : DenG Src) (t : Tg) (b : Stm) : Stm := fun l h => (di l h).to l fun s h1 => forL t b s s.1 l h1
theorem gs_for {tg iter : Expr} {body : List Stmt} {di : DenG Src} {t : Tg} {db : Stm} {pos : Pos} (hp : PassesOwn (model X.prog X.w) X.A X.env X.xe) (hc : X.calm = true) (hi : GI X W tg iter di) (hg : GG X W tg t) (hb : GSs X W body db)
    (hs : ∀ x, foldedSetIterable iter X.env x = pure x := by intro _; rfl) : GS X W (.For tg iter body [] pos) (sFor di t db) := by
  refine PS.imp (ps_for hp hc hi hg hb hs) fun D σ H ⟨g, l, h, S, R, A⟩ => ?_
  refine ⟨g, l, h, S, R, ?_⟩
  unfold sFor at A
  unfold AfterI
  cases e : di l h with
  | exc x h1 => rw [e] at A; exact fun g' H' c d E' R' r => A g' H' σ c d E' R' (S.ext R E') r
  | fail => rw [e] at A; exact A
  | ok s h1 =>
    rw [e] at A
    simp only [Res.to_ok] at A
    have ok1 : srcOk s h1 := by
      cases hs1 : s.1 with
      | nil =>
        rw [hs1] at A
        simp only [forL] at A
        split at A
        · assumption
        · exact A.elim
      | cons x r =>
        rw [hs1] at A
        simp only [forL] at A
        split at A
        · assumption
        · exact A.elim
    refine ⟨ok1, fun g1 H1 J E1 R1 hz sv => ?_⟩
    refine ⟨fun i m σ H => ∃ g l h, Ext g1 H1 g H ∧ SR X.K g H l σ ∧ HR X.K g H h ∧ m = s.1.length - i ∧ i ≤ s.1.length ∧ AfterS X.K W g H D (forL t db s (s.1.drop i) l h), ⟨s.1.length, g1, l, h1, Ext.refl, S.ext R E1, R1, by simp, Nat.zero_le _, by simpa using AfterS.ext E1 A⟩, ?_⟩
    rintro i m σ H ⟨g, l, h, E, S, R, rfl, hil, A⟩
    cases hd : s.1.drop i with
    | nil =>
      have hle : s.1.length ≤ i := List.drop_eq_nil_iff.mp hd
      rw [hd] at A
      simp only [forL] at A
      split at A
      · rename_i ok
        exact .inl ⟨(sv g H h E.s R ok i).2 (Nat.le_antisymm hil hle), A g H σ Ext.refl R S⟩
      · exact A.elim
    | cons v r =>
      have hlt : i < s.1.length := by
        by_cases q : i < s.1.length
        · exact q
        · rw [List.drop_eq_nil_iff.mpr (by omega)] at hd; cases hd
      have hv : s.1[i]? = some v := by
        have q := congrArg List.head? hd
        rw [List.head?_drop] at q
        simpa using q
      have hr : s.1.drop (i + 1) = r := by
        have q := congrArg List.tail hd
        rw [List.tail_drop] at q
        simpa using q
      rw [hd] at A
      simp only [forL] at A
      split at A
      · rename_i ok
        obtain ⟨go, yl⟩ := (sv g H h E.s R ok i).1 v hv
        refine .inr ⟨go, fun σ' H' => ∃ g l h, Ext g1 H1 g H' ∧ SR X.K g H' l σ' ∧ HR X.K g H' h ∧ i + 1 ≤ s.1.length ∧ AfterS X.K W g H' D (forL t db s (s.1.drop (i + 1)) l h), fun σ' H' ⟨g, l, h, q1, q2, q3, q4, q5⟩ => ⟨s.1.length - (i + 1), by omega, g, l, h, q1, q2, q3, rfl, q4, q5⟩, fun x H' y => ?_⟩
        obtain ⟨E2, R2, rx⟩ := yl x H' y
        refine ⟨g, l, h, v, S.ext R E2, R2, rx, ?_⟩
        have A2 := AfterS.ext E2 A
        cases et : t v l h with
        | exc x l1 h1 => rw [et] at A2; exact A2
        | fail => rw [et] at A2; exact A2
        | ok l2 h2 =>
          rw [et] at A2
          simp only at A2
          intro g3 H3 σ3 E3 R3 S3
          refine ⟨g3, l2, h2, S3, R3, ?_⟩
          have A3 := AfterS.ext E3 A2
          have E03 := (E.trans E2).trans E3
          cases eb : db l2 h2 with
          | nx l4 h4 => rw [eb] at A3; exact fun g' H' σ' E' R' S' => ⟨g', l4, h4, E03.trans E', S', R', hlt, by rw [hr]; exact AfterS.ext E' A3⟩
          | ct l4 h4 => rw [eb] at A3; exact fun g' H' σ' E' R' S' => ⟨g', l4, h4, E03.trans E', S', R', hlt, by rw [hr]; exact AfterS.ext E' A3⟩
          | bk l4 h4 => rw [eb] at A3; exact A3
          | rt v4 h4 => rw [eb] at A3; exact A3
          | exc x4 l4 h4 => rw [eb] at A3; exact A3
          | fail => rw [eb] at A3; exact A3
      · exact A.elim
end
end GH
set_option Elab.async false
set_option linter.all false
set_option maxRecDepth 100000
set_option maxHeartbeats 1000000
set_option autoImplicit false
/-! What may be walked; list comprehensions. -/
namespace GH
open PySem PySem.Spec PyProof.Rows L2

section
variable {K : PySem.W.Frag} {g0 g : Gh} {H0 H : Hp}
theorem sqL_ext {a : Addr} {xs : List V} {h : Hv} (R : HR K g0 H0 h) (E : ExtS g0 H0 g H) (na : ¬ g0.own a) (s : SqL K H0 a xs) : SqL K H a xs := by
  rcases s with s | s
  · exact .inl (E.rd na s)
  · exact .inr s
theorem sqT_ext {a : Addr} {xs : List V} {h : Hv} (R : HR K g0 H0 h) (E : ExtS g0 H0 g H) (s : SqT K H0 a xs) : SqT K H a xs := by
  rcases s with s | s
  · exact .inl (E.rd (R.tup_own s) s)
  · exact .inr s
/-- a walk whose items stay -/
theorem serves_of {J : It} {items : List Val} {src : Option Nat} {n : Nat} (hn : n = items.length)
    (hw : ∀ g H h, ExtS g0 H0 g H → HR K g H h → srcOk (items, src) h → ∃ (G : Hp → Prop) (Y : Nat → Hp → V → Hp → Prop), Walk J n G Y ∧ G H ∧ ∀ i x H' v, items[i]? = some v → Y i H x H' → Ext g H g H' ∧ HR K g H' h ∧ VR K g H' v x) : Serves K J g0 H0 (items, src) := by
  intro g H h E R ok i
  obtain ⟨G, Y, w, gh, hy⟩ := hw g H h E R ok
  refine ⟨fun v hv => ?_, fun hi => ?_⟩
  · have hi : i < n := by rw [hn]; exact (List.getElem?_eq_some_iff.mp hv).1
    exact ⟨w.goes i H hi gh, fun x H' y => hy i x H' v hv (w.yields i H x H' hi gh y)⟩
  · rw [hi]
    show J.stop items.length H
    rw [← hn]
    exact w.stops H gh
theorem serves_list {a : Addr} {xs : List V} {items : List Val} {h : Hv} (R0 : HR K g0 H0 h) (na : ¬ g0.own a) (s : SqL K H0 a xs) (r : VRs K g0 H0 items xs) : Serves K (Itl K a) g0 H0 (items, none) :=
  serves_of (n := xs.length) r.length.symm fun g H h E R _ => ⟨_, _, walk_list, sqL_ext R0 E na s, fun i x H' v hv y => by
    obtain ⟨rfl, e⟩ := y
    obtain ⟨z, e1, e2⟩ := r.get hv
    rw [e] at e1; cases e1
    exact ⟨Ext.refl, R, e2.extS R0 E⟩⟩
theorem serves_fz {a : Addr} {xs : List V} {items : List Val} {h : Hv} (R0 : HR K g0 H0 h) (s : FzL K H0 a xs) (r : VRs K g0 H0 items xs) : Serves K (Itl K a) g0 H0 (items, none) :=
  serves_of (n := xs.length) r.length.symm fun g H h E R _ => ⟨_, _, walk_list, (s.imp fun o s => E.keep _ _ s (R0.not_own s fun z => z)).sq, fun i x H' v hv y => by
    obtain ⟨rfl, e⟩ := y
    obtain ⟨z, e1, e2⟩ := r.get hv
    rw [e] at e1; cases e1
    exact ⟨Ext.refl, R, e2.extS R0 E⟩⟩
theorem serves_tup {a : Addr} {xs : List V} {items : List Val} {h : Hv} (R0 : HR K g0 H0 h) (s : SqT K H0 a xs) (r : VRs K g0 H0 items xs) : Serves K (Itt K a) g0 H0 (items, none) :=
  serves_of (n := xs.length) r.length.symm fun g H h E R _ => ⟨_, _, walk_tup, sqT_ext R0 E s, fun i x H' v hv y => by
    obtain ⟨rfl, e⟩ := y
    obtain ⟨z, e1, e2⟩ := r.get hv
    rw [e] at e1; cases e1
    exact ⟨Ext.refl, R, e2.extS R0 E⟩⟩
/-- a list of ours that must stay -/
theorem serves_ref {a : Addr} {items : List Val} {j : Nat} (hm : g0.m[j]? = some a) : Serves K (Itl K a) g0 H0 (items, some j) :=
  serves_of (n := items.length) rfl fun g H h E R ok => by
    have ok : h[j]? = some (.lst items) := ok
    obtain ⟨t, em, _⟩ := E.m
    have hm' : g.m[j]? = some a := by rw [em, List.getElem?_append_left (List.getElem?_eq_some_iff.mp hm).1]; exact hm
    obtain ⟨xs, e1, r⟩ := ref_at R ok hm'
    refine ⟨fun H => SqL K H a xs, YAt xs, by rw [r.length]; exact walk_list, SqL.of e1, fun i x H' v hv y => ?_⟩
    obtain ⟨rfl, e⟩ := y
    obtain ⟨z, e1, e2⟩ := r.get hv
    rw [e] at e1; cases e1
    exact ⟨Ext.refl, R, e2⟩
theorem serves_str {z : List Nat} : Serves K (Its (sOf z)) g0 H0 (z.map fun c => .str [c], none) :=
  serves_of (n := (sOf z).cps.size) (by simp [sOf]) fun g H h E R _ => ⟨_, _, walk_str, trivial, fun i x H' v hv y => by
    obtain ⟨rfl, c, e, rfl⟩ := y
    rw [List.getElem?_map] at hv
    simp [sOf] at e
    rw [e] at hv
    simp at hv
    subst hv
    exact ⟨Ext.refl, R, by simp only [VR]; rfl⟩⟩
/-- lo, lo + 1, .. -/
def rangeL (lo : Int) (n : Nat) : List Val := (List.range n).map fun i => .int (lo + (i : Nat))
theorem serves_range {lo : Int} {n : Nat} : Serves K (Itr lo n) g0 H0 (rangeL lo n, none) :=
  serves_of (n := n) (by simp [rangeL]) fun g H h E R _ => ⟨_, _, walk_range, trivial, fun i x H' v hv y => by
    obtain ⟨rfl, rfl⟩ := y
    unfold rangeL at hv
    rw [List.getElem?_map] at hv
    by_cases hi : i < n
    · rw [List.getElem?_range hi] at hv
      simp at hv
      subst hv
      exact ⟨Ext.refl, R, by simp only [VR]⟩
    · rw [List.getElem?_eq_none (by simp; omega)] at hv
      cases hv⟩
/-- pairs of two lists' items, each a new tuple -/
theorem serves_pair {J : It} {xs ys : List V} {l k : List Val} {n : Nat} {G : Hp → Prop} {h : Hv} (R0 : HR K g0 H0 h) (hn : n = (l.zip k).length) (w : Walk J n G (YPair (fun i => xs[i]?) (fun i => ys[i]?))) (hG : ∀ g H, ExtS g0 H0 g H → G H) (r : VRs K g0 H0 l xs) (q : VRs K g0 H0 k ys) :
    Serves K J g0 H0 ((l.zip k).map fun p => .tup [p.1, p.2], none) :=
  serves_of (n := n) (by simpa using hn) fun g H h E R _ => ⟨_, _, w, hG g H E, fun i x H' v hv y => by
    obtain ⟨T, x1, y1, rfl, nT, rfl, e1, e2⟩ := y
    rw [List.getElem?_map] at hv
    cases ez : (l.zip k)[i]? with
    | none => rw [ez] at hv; cases hv
    | some p =>
      rw [ez] at hv
      simp at hv
      subst hv
      obtain ⟨f1, f2⟩ := List.getElem?_zip_eq_some.mp ez
      obtain ⟨a1, b1, c1⟩ := r.get f1
      obtain ⟨a2, b2, c2⟩ := q.get f2
      have e1 : xs[i]? = some x1 := e1
      have e2 : ys[i]? = some y1 := e2
      rw [e1] at b1; cases b1
      rw [e2] at b2; cases b2
      obtain ⟨E1, R1⟩ := R.grow (o := .tup [x1, y1]) nT
      refine ⟨E1, R1, ?_⟩
      simp only [VR]
      exact ⟨T, _, rfl, SqT.of upd_same, .cons ((c1.extS R0 E).ext R E1) (.cons ((c2.extS R0 E).ext R E1) .nil)⟩⟩
end
/-! ### for x in e -/
def vIter (v : Val) (h : Hv) : Res Src := match v with
  | .tup l => .ok (l, none) h
  | .lst l => .ok (l, none) h
  | .fz l => .ok (l, none) h
  | .str s => if s.length ≤ lineN then .ok (s.map (fun c => .str [c]), none) h else .fail
  | .ref i => match h[i]? with
    | some (.lst l) => .ok (l, some i) h
    | _ => .fail
  | _ => .fail
def iSeq (d : Den) : DenG Src := fun l h => (d l h).bind vIter
/-- from an expression's result on, for what walks -/
theorem tG_I {K : PySem.W.Frag} {W : WX} {σ : L2.St} {g : Gh} {H : Hp} {l : Loc} {h : Hv} {α β : Type} {rel : Gh → Hp → α → β → Prop} {d : DenG α} {k : α → Hv → Res Src} {R : It → Hp → Prop} {R' : β → Hp → Prop} (S : SR K g H l σ) (hr : HR K g H h)
    (A : AfterI K W σ g H R ((d l h).bind k))
    (hk : ∀ v h1 g1 H1 x, Ext g H g1 H1 → SR K g1 H1 l σ → HR K g1 H1 h1 → rel g1 H1 v x → AfterI K W σ g1 H1 R (k v h1) → R' x H1) : tG K W rel d σ H R' := by
  refine ⟨g, l, h, S, hr, ?_⟩
  cases e : d l h with
  | ok v h1 =>
    rw [e] at A
    simp only [Res.bind_ok] at A
    intro g' H' x E R1 r
    refine hk v h1 g' H' x E (S.ext hr E) R1 r ?_
    cases ek : k v h1 with
    | ok s h2 => rw [ek] at A; exact ⟨A.1, fun g2 H2 J E2 => A.2 g2 H2 J (E.trans E2)⟩
    | exc x h2 => rw [ek] at A; exact fun g2 H2 c d E2 => A g2 H2 c d (E.trans E2)
    | fail => rw [ek] at A; exact A
  | exc x h1 => rw [e] at A; exact A
  | fail => rw [e] at A; exact A
section
variable {X : Cx} {W : WX}
theorem gi_seq {tg e : Expr} {d : Den} (he : GE X W e d) : GI X W tg e (iSeq d) := by
  refine ⟨fun pins s σ H R I ⟨g, l, h, S, Rh, A⟩ => ?_⟩
  have start : tG X.K W (vr X.K) d σ H fun x H1 => ∃ v h1 g1, HR X.K g1 H1 h1 ∧ VR X.K g1 H1 v x ∧ AfterI X.K W σ g1 H1 R (vIter v h1) :=
    tG_I S Rh A fun v h1 g1 H1 x E S1 R1 r1 A1 => ⟨v, h1, g1, R1, r1, A1⟩
  refine thn (he.run pins s σ H _ I start) fun u s1 ⟨x, H1, I1, r1, v, h1, g1, R1, rv, A1⟩ => ?_
  have lists : ∀ a xs items, x = .ref a → ¬ g1.own a → SqL X.K H1 a xs → VRs X.K g1 H1 items xs → AfterI X.K W σ g1 H1 R (.ok (items, none) h1) → wpAny (model X.prog X.w) X.A (pyIter u) (PIE X pins σ tg R) X.xe s1 := by
    rintro a xs items rfl na hq r A1
    cases r1
    obtain ⟨its, rv, p, hz⟩ := I1.list hq
    refine wpAny_pyIter_list p.isList (pi_one (tk := s1.toks) I1 _ (turn_list _ _) ⟨_, Heap.get?_push_size _ rfl, rfl, rfl⟩ (A1.2 g1 H1 _ Ext.refl R1 (by show items.length ≤ _; rw [r.length]; exact hz) (serves_list R1 na hq r)))
  cases v with
  | tup items =>
    simp only [VR] at rv
    obtain ⟨a, xs, rfl, hq, r⟩ := rv
    cases r1
    obtain ⟨its, rv, p, hz⟩ := I1.tuple hq
    exact wpAny_pyIter_tuple (show s1.heap.IsTuple a its.toArray from p) (pi_one (tk := s1.toks) I1 _ (turn_tuple _ _) ⟨_, Heap.get?_push_size _ rfl, rfl, rfl⟩ (A1.2 g1 H1 _ Ext.refl R1 (by show items.length ≤ _; rw [r.length]; exact hz) (serves_tup R1 hq r)))
  | lst items =>
    simp only [VR] at rv
    obtain ⟨a, xs, rfl, na, hq, r⟩ := rv
    exact lists a xs items rfl na (SqL.of hq) r A1
  | fz items =>
    simp only [VR] at rv
    obtain ⟨a, xs, rfl, hq, r⟩ := rv
    cases r1
    obtain ⟨its, rv, p, hz⟩ := I1.list hq.sq
    exact wpAny_pyIter_list p.isList (pi_one (tk := s1.toks) I1 _ (turn_list _ _) ⟨_, Heap.get?_push_size _ rfl, rfl, rfl⟩ (A1.2 g1 H1 _ Ext.refl R1 (by show items.length ≤ _; rw [r.length]; exact hz) (serves_fz R1 hq r)))
  | str z =>
    simp only [VR] at rv
    subst rv
    obtain ⟨t, rfl⟩ := r1
    simp only [vIter] at A1
    split at A1
    · rename_i hz
      have q := A1.2 g1 H1 _ Ext.refl R1 (by simpa using line_ok hz) serves_str
      cases ha : (sOf z).cps.all (· < 128)
      · exact wpAny_pyIter_wide ha (pi_one (tk := s1.toks) I1 _ (turn_str _ _ t "str_iterator" (.inr rfl)) ⟨_, Heap.get?_push_size _ rfl, rfl, rfl⟩ q)
      · exact wpAny_pyIter_ascii ha (pi_one (tk := s1.toks) I1 _ (turn_str _ _ t "str_ascii_iterator" (.inl rfl)) ⟨_, Heap.get?_push_size _ rfl, rfl, rfl⟩ q)
    · exact A1.elim
  | ref i =>
    simp only [vIter] at A1
    split at A1
    · rename_i items hi
      simp only [VR] at rv
      obtain ⟨a, rfl, hm⟩ := rv
      obtain ⟨xs, e1, r⟩ := ref_at R1 hi hm
      cases r1
      obtain ⟨its, rv, p, hz⟩ := I1.list (SqL.of e1)
      exact wpAny_pyIter_list p.isList (pi_one (tk := s1.toks) I1 _ (turn_list _ _) ⟨_, Heap.get?_push_size _ rfl, rfl, rfl⟩ (A1.2 g1 H1 _ Ext.refl R1 (by show items.length ≤ _; rw [r.length]; exact hz) (serves_ref hm)))
    · exact A1.elim
  | _ => exact A1.elim
/-! ### range -/
def vRange1 (v : Val) (h : Hv) : Res Src := match v with
  | .int j => if -(2 ^ 62) ≤ j ∧ j ≤ 16777216 then .ok (rangeL 0 j.toNat, none) h else .fail
  | _ => .fail
def vRange2 (v u : Val) (h : Hv) : Res Src := match v, u with
  | .int i, .int j => if -(2 ^ 62) ≤ i ∧ i < 2 ^ 62 ∧ -(2 ^ 62) ≤ j ∧ j < 2 ^ 62 ∧ j - i ≤ 16777216 then .ok (rangeL i (j - i).toNat, none) h else .fail
  | _, _ => .fail
def iRange1 (d : Den) : DenG Src := fun l h => (d l h).bind vRange1
def iRange2 (a b : Den) : DenG Src := fun l h => (a l h).bind fun v h1 => (b l h1).bind fun u h2 => vRange2 v u h2
theorem rangeL_len (lo : Int) (n : Nat) : (rangeL lo n).length = n := by simp [rangeL]
theorem gi_range1 {tg a : Expr} {d : Den} {p pos : Pos} (he : GE X W a d) (hm : X.mg "range" = none) (hg : Gl X "range" := by rfl) (hs : starEach [a] X.env = (false, eval a X.env) :: starEach [] X.env := by rfl) (hs1 : starEach [a] X.env = [(false, eval a X.env)] := by rfl) : GI X W tg (.Call (.Name "range" p) [a] [] pos) (iRange1 d) := by
  refine PI.imp (pi_range1 hg hm (pa_cons he pa_nil hs) hs1) fun pins s σ H R I ⟨g, l, h, S, Rh, A⟩ => ?_
  refine tG_I S Rh A fun v h1 g1 H1 x E S1 R1 r1 A1 => ?_
  cases v with
  | int j =>
    simp only [VR] at r1
    subst r1
    simp only [vRange1] at A1
    split at A1
    · rename_i c
      exact ⟨j, rfl, c.1, by omega, A1.2 g1 H1 _ Ext.refl R1 (by show (rangeL 0 j.toNat).length ≤ _; rw [rangeL_len, sizeLine_eq]; omega) serves_range⟩
    · exact A1.elim
  | _ => exact A1.elim
theorem gi_range2 {tg a b : Expr} {da db : Den} {p pos : Pos} (ha : GE X W a da) (hb : GE X W b db) (hm : X.mg "range" = none) (hg : Gl X "range" := by rfl) (hs : starEach [a, b] X.env = (false, eval a X.env) :: starEach [b] X.env := by rfl) (hs1 : starEach [a, b] X.env = [(false, eval a X.env), (false, eval b X.env)] := by rfl)
    (hs2 : starEach [b] X.env = (false, eval b X.env) :: starEach [] X.env := by rfl) (hs3 : starEach [b] X.env = [(false, eval b X.env)] := by rfl) : GI X W tg (.Call (.Name "range" p) [a, b] [] pos) (iRange2 da db) := by
  refine PI.imp (pi_range2 hg hm (pa_cons ha (pa_cons hb pa_nil hs2) hs) hs1 hs3) fun pins s σ H R I ⟨g, l, h, S, Rh, A⟩ => ?_
  refine tG_I S Rh A fun v h1 g1 H1 x E S1 R1 r1 A1 => ?_
  refine tG_I S1 R1 A1 fun u h2 g2 H2 y E2 S2 R2 r2 A2 => ?_
  cases v with
  | int i =>
    cases u with
    | int j =>
      simp only [VR] at r1 r2
      subst r1 r2
      simp only [vRange2] at A2
      split at A2
      · rename_i c
        exact ⟨i, j, rfl, ⟨c.1, c.2.1, c.2.2.1, c.2.2.2.1⟩, A2.2 g2 H2 _ Ext.refl R2 (by show (rangeL i (j - i).toNat).length ≤ _; rw [rangeL_len, sizeLine_eq]; omega) serves_range⟩
      · exact A2.elim
    | _ => exact A2.elim
  | _ => exact A2.elim

/-! ### comprehensions -/
/-- the target of a comprehension: it writes the block's own slots alone -/
def tTc (K : PySem.W.Frag) (vs : List Nat) (d : Tg) : TG := fun x σ H Q => ∃ g l h v, SR K g H l σ ∧ HR K g H h ∧ VR K g H v x ∧ match d v l h with
  | .ok l' h' => ∀ g' H' σ', Ext g H g' H' → HR K g' H' h' → SR K g' H' l' σ' → wipe σ' vs = wipe σ vs → Q σ' H'
  | _ => False
def tTcs (K : PySem.W.Frag) (vs : List Nat) (d : Tgs) : TGs := fun x σ H Q => ∃ g l h v, SR K g H l σ ∧ HR K g H h ∧ VRs K g H v x ∧ match d v l h with
  | .ok l' h' => ∀ g' H' σ', Ext g H g' H' → HR K g' H' h' → SR K g' H' l' σ' → wipe σ' vs = wipe σ vs → Q σ' H'
  | _ => False
def GC (X : Cx) (vs : List Nat) (tg : Expr) (d : Tg) : Prop := PG X tg (tTc X.K vs d)
def GCs (X : Cx) (vs : List Nat) (tg : List Expr) (d : Tgs) : Prop := PGs X tg (tTcs X.K vs d)
theorem wipe_set : ∀ {vs : List Nat} {σ : L2.St} {i : Nat} {x : Option V}, i ∈ vs → wipe (σ.set i x) vs = wipe σ vs
  | [], _, _, _, h => nomatch h
  | v :: vs, σ, i, x, h => by
    unfold wipe
    by_cases hi : i ∈ vs
    · rw [wipe_set hi]
    · have hv : i = v := by
        rcases List.mem_cons.mp h with h | h
        · exact h
        · exact absurd h hi
      subst hv
      have gen : ∀ (us : List Nat), wipe (σ.set i x) us = (wipe σ us).set i x ∨ wipe (σ.set i x) us = wipe σ us := by
        intro us
        induction us with
        | nil => exact .inl rfl
        | cons u us ih =>
          unfold wipe
          rcases ih with e | e
          · rw [e]
            by_cases hu : i = u
            · subst hu; right; rw [List.set_set]
            · left; rw [List.set_comm _ _ hu]
          · right; rw [e]
      rcases gen vs with e | e
      · rw [e, List.set_set]
      · rw [e]
theorem gc_name (i : Nat) {x : Str} {pos : Pos} {vs : List Nat} (hN : X.N.Nodup) (hv : i ∈ vs := by decide) (hi : X.N[i]? = some x := by rfl) (hx : L2.Loc X.env.scope x := by first | exact Or.inl rfl | exact Or.inr rfl) (hf : X.fn x = true ∨ X.env.scope.names.lookup x = some .local := by first | exact .inl rfl | exact .inr rfl) : GC X vs (.Name x pos) (gName i) := by
  refine PG.imp (pg_name hN hi hx hf) fun y σ H Q ⟨g, l, h, v, S, R, r, A⟩ => ?_
  exact A g H _ Ext.refl R (S.set i r) (wipe_set hv)
theorem gcs_nil {vs : List Nat} : GCs X vs [] gsNil := by
  refine PGs.imp pgs_nil fun y σ H Q ⟨g, l, h, v, S, R, r, A⟩ => ?_
  cases v with
  | nil =>
    simp only [VRs] at r
    exact ⟨r, A g H σ Ext.refl R S rfl⟩
  | cons v vs => exact A.elim
theorem gcs_cons {vs : List Nat} {e : Expr} {es : List Expr} {t : Tg} {u : Tgs} (h1 : GC X vs e t) (h2 : GCs X vs es u)
    (hs : (assignEach (e :: es) X.env).map (·.2) = assign e X.env :: (assignEach es X.env).map (·.2) := by rfl) : GCs X vs (e :: es) (gsCons t u) := by
  refine PGs.imp (pgs_cons h1 h2 hs) fun y σ H Q ⟨g, l, h, v, S, R, r, A⟩ => ?_
  cases v with
  | nil => exact A.elim
  | cons v ws =>
    simp only [VRs] at r
    obtain ⟨x, r', rfl, q1, q2⟩ := r
    refine ⟨x, r', rfl, g, l, h, v, S, R, q1, ?_⟩
    simp only [gsCons] at A
    cases e : t v l h with
    | ok l1 h1 =>
      rw [e] at A
      simp only [TRes.bind_ok] at A
      intro g' H' σ' E R' S' w
      refine ⟨g', l1, h1, ws, S', R', q2.ext R E, ?_⟩
      cases e2 : u ws l1 h1 with
      | ok l2 h2 =>
        rw [e2] at A
        exact fun g2 H2 σ2 E2 R2 S2 w2 => A g2 H2 σ2 (E.trans E2) R2 S2 (w2.trans w)
      | exc x l1 h1 => rw [e2] at A; exact A
      | fail => rw [e2] at A; exact A
    | exc x l1 h1 => rw [e] at A; exact A
    | fail => rw [e] at A; exact A
theorem gc_tup {vs : List Nat} {es : List Expr} {k : Nat} {t : Tgs} {n : Nat} {pos : Pos} (hc : X.calm = true) (h : GCs X vs es t)
    (hn : (assignEach es X.env).length = n := by rfl) (hst : (assignEach es X.env).findIdx? (·.1) = none := by rfl) : GC X vs (.Tuple es k pos) (gTup n t) := by
  refine PG.imp (pg_tup hc h hn hst) fun y σ H Q ⟨g, l, h, v, S, R, r, A⟩ => ?_
  cases v with
  | tup ws =>
    simp only [VR] at r
    obtain ⟨a, xs, rfl, q1, q2⟩ := r
    unfold gTup at A
    simp only at A
    split at A
    · rename_i l' h' e
      split at e
      · rename_i hl2
        exact ⟨a, xs, rfl, q1, by rw [← q2.length]; exact hl2, g, l, h, ws, S, R, q2, by rw [e]; exact A⟩
      · cases e
    · exact A.elim
  | _ => exact A.elim
end
end GH
set_option Elab.async false
set_option linter.all false
set_option maxRecDepth 100000
set_option maxHeartbeats 1000000
set_option autoImplicit false
/-! List comprehensions, one clause. -/
namespace GH
open PySem PySem.Spec PyProof.Rows L2

section
variable {K : PySem.W.Frag} {g : Gh} {H : Hp} {D : Addr} {ds zs : HO}
mutual
theorem VR.reset (hD : D ∈ g.r) (e0 : H D = some ds) (mu : Mut (some ds)) : ∀ {v : Val} {x : V}, VR K g H v x → VR K g (upd H D zs) v x
  | .non, x, q => by simpa only [VR] using q
  | .bl b, x, q => by simpa only [VR] using q
  | .int i, x, q => by simpa only [VR] using q
  | .str s, x, q => by simpa only [VR] using q
  | .tup l, x, q => by
    simp only [VR] at q ⊢
    obtain ⟨a, xs, e, s, r⟩ := q
    refine ⟨a, xs, e, ?_, VRs.reset hD e0 mu r⟩
    rcases s with (s | ⟨o, s⟩) | s
    · exact .inl (.inl (by rw [upd_ne (show a ≠ D by rintro rfl; rw [e0] at s; cases s; exact mu)]; exact s))
    · exact .inl (.inr ⟨o, by rw [upd_ne (show a ≠ D by rintro rfl; rw [e0] at s; cases s; exact mu)]; exact s⟩)
    · exact .inr s
  | .lst l, x, q => by
    simp only [VR] at q ⊢
    obtain ⟨a, xs, e, n, s, r⟩ := q
    exact ⟨a, xs, e, n, by rw [upd_ne (show a ≠ D by rintro rfl; exact n (.inr hD))]; exact s, VRs.reset hD e0 mu r⟩
  | .fz l, x, q => by
    simp only [VR] at q ⊢
    obtain ⟨a, xs, e, s, r⟩ := q
    exact ⟨a, xs, e, s.imp fun o s => by rw [upd_ne (show a ≠ D by rintro rfl; rw [e0] at s; cases s; exact mu)]; exact s, VRs.reset hD e0 mu r⟩
  | .ref i, x, q => by simpa only [VR] using q
theorem VRs.reset (hD : D ∈ g.r) (e0 : H D = some ds) (mu : Mut (some ds)) : ∀ {l : List Val} {xs : List V}, VRs K g H l xs → VRs K g (upd H D zs) l xs
  | [], xs, q => by simpa only [VRs] using q
  | v :: l, xs, q => by
    simp only [VRs] at q ⊢
    obtain ⟨x, r, e, q1, q2⟩ := q
    exact ⟨x, r, e, VR.reset hD e0 mu q1, VRs.reset hD e0 mu q2⟩
end
theorem HR.reset {h : Hv} (R : HR K g H h) (hD : D ∈ g.r) (e0 : H D = some ds) (mu : Mut (some ds)) (mz : Mut (some zs)) : HR K g (upd H D zs) h := by
  refine ⟨R.len, R.nd, R.dis, fun a ha => ?_, fun i o a e1 e2 => ?_⟩
  · by_cases q : a = D
    · subst q; exact ⟨_, upd_same, mz⟩
    · obtain ⟨ob, e, mo⟩ := R.al a ha
      exact ⟨ob, by rw [upd_ne q]; exact e, mo⟩
  · have hne : a ≠ D := fun z => R.dis a (List.mem_of_getElem? e2) (by rw [z]; exact hD)
    have q := R.obj i o a e1 e2
    cases o with
    | lst l => obtain ⟨xs, e, r⟩ := q; exact ⟨xs, by rw [upd_ne hne]; exact e, r.reset hD e0 mu⟩
    | dic l => obtain ⟨xs, e, r⟩ := q; exact ⟨xs, by rw [upd_ne hne]; exact e, r.1, r.2.reset hD e0 mu⟩
    | ins c f => obtain ⟨dx, gs, e, r⟩ := q; exact ⟨dx, gs, by rw [upd_ne hne]; exact e, r.1, r.2.reset hD e0 mu⟩
theorem Ext.reset {g' : Gh} {H' : Hp} {xs : HO} (E : Ext g H g' H') (hD : D ∉ g.m) (e0 : H D = some ds) : Ext g (upd H D xs) g' (upd H' D xs) := by
  obtain ⟨t, em, n⟩ := E.m
  refine ⟨⟨t, em, fun b hb => ?_⟩, E.r, fun b o e hb => ?_, fun b o e => ?_⟩
  · have hne : b ≠ D := by rintro rfl; rw [n _ hb] at e0; cases e0
    rw [upd_ne hne]; exact n b hb
  · by_cases q : b = D
    · subst q; rw [upd_same] at e ⊢; exact e
    · rw [upd_ne q] at e ⊢; exact E.keep b o e hb
  · by_cases q : b = D
    · subst q; exact ⟨_, upd_same⟩
    · rw [upd_ne q] at e ⊢; exact E.there b o e
mutual
theorem VR.own {g' : Gh} {t : List Addr} (hm : g'.m = g.m ++ t) (ho : ∀ a, ¬ g.own a → ¬ g'.own a) : ∀ {v : Val} {x : V}, VR K g H v x → VR K g' H v x
  | .non, x, q => by simpa only [VR] using q
  | .bl b, x, q => by simpa only [VR] using q
  | .int i, x, q => by simpa only [VR] using q
  | .str s, x, q => by simpa only [VR] using q
  | .tup l, x, q => by
    simp only [VR] at q ⊢
    obtain ⟨a, xs, e, s, r⟩ := q
    exact ⟨a, xs, e, s, VRs.own hm ho r⟩
  | .lst l, x, q => by
    simp only [VR] at q ⊢
    obtain ⟨a, xs, e, n, s, r⟩ := q
    exact ⟨a, xs, e, ho a n, s, VRs.own hm ho r⟩
  | .fz l, x, q => by
    simp only [VR] at q ⊢
    obtain ⟨a, xs, e, s, r⟩ := q
    exact ⟨a, xs, e, s, VRs.own hm ho r⟩
  | .ref i, x, q => by
    simp only [VR] at q ⊢
    obtain ⟨a, e, h⟩ := q
    exact ⟨a, e, by rw [hm, List.getElem?_append_left (List.getElem?_eq_some_iff.mp h).1]; exact h⟩
theorem VRs.own {g' : Gh} {t : List Addr} (hm : g'.m = g.m ++ t) (ho : ∀ a, ¬ g.own a → ¬ g'.own a) : ∀ {l : List Val} {xs : List V}, VRs K g H l xs → VRs K g' H l xs
  | [], xs, q => by simpa only [VRs] using q
  | v :: l, xs, q => by
    simp only [VRs] at q ⊢
    obtain ⟨x, r, e, q1, q2⟩ := q
    exact ⟨x, r, e, VR.own hm ho q1, VRs.own hm ho q2⟩
end
theorem HR.less {r' : List Addr} {h : Hv} (R : HR K g H h) (hr : ∀ b ∈ r', b ∈ g.r) : HR K ⟨g.m, r'⟩ H h := by
  have hm : (Gh.mk g.m r').m = g.m ++ [] := by simp
  have ho : ∀ a, ¬ g.own a → ¬ (Gh.mk g.m r').own a := fun a n z => n (z.elim .inl fun z => .inr (hr a z))
  refine ⟨R.len, R.nd, fun a ha z => R.dis a ha (hr a z), fun a ha => R.al a (hr a ha), fun i o a e1 e2 => ?_⟩
  have q := R.obj i o a e1 e2
  cases o with
  | lst l => obtain ⟨xs, e, r⟩ := q; exact ⟨xs, e, r.own hm ho⟩
  | dic l => obtain ⟨xs, e, r⟩ := q; exact ⟨xs, e, r.1, r.2.own hm ho⟩
  | ins c f => obtain ⟨dx, gs, e, r⟩ := q; exact ⟨dx, gs, e, r.1, r.2.own hm ho⟩
theorem SR.extS {g' : Gh} {H' : Hp} {h : Hv} {l : Loc} {σ : L2.St} (S : SR K g H l σ) (R : HR K g H h) (E : ExtS g H g' H') : SR K g' H' l σ :=
  ⟨S.len, fun i v e => by obtain ⟨x, e1, e2⟩ := S.at_ i v e; exact ⟨x, e1, e2.extS R E⟩⟩
/-- the slots of the block's own names forgotten -/
def wipeL (l : Loc) : List Nat → Loc
  | [] => l
  | v :: vs => (wipeL l vs).set v none
theorem wipeL_some {l : Loc} {i : Nat} {x : Val} : ∀ {vs : List Nat}, (wipeL l vs)[i]? = some (some x) → l[i]? = some (some x) ∧ i ∉ vs
  | [], h => ⟨h, by simp⟩
  | v :: vs, h => by
    unfold wipeL at h
    by_cases hi : v = i
    · subst hi
      by_cases hv : v < (wipeL l vs).length
      · rw [List.getElem?_set_self hv] at h; cases h
      · rw [List.getElem?_eq_none (by simpa using hv)] at h; cases h
    · rw [List.getElem?_set_ne hi] at h
      obtain ⟨h1, h2⟩ := wipeL_some h
      exact ⟨h1, by simp only [List.mem_cons, not_or]; exact ⟨fun e => hi e.symm, h2⟩⟩
theorem wipeL_len (l : Loc) : ∀ vs, (wipeL l vs).length = l.length
  | [] => rfl
  | v :: vs => by unfold wipeL; rw [List.length_set, wipeL_len l vs]
theorem SR.wipe {l : Loc} {σ : L2.St} (S : SR K g H l σ) (vs : List Nat) : SR K g H (wipeL l vs) (L2.wipe σ vs) := by
  refine ⟨by rw [wipeL_len, L2.wipe_length, S.len], fun i v e => ?_⟩
  obtain ⟨e1, n⟩ := wipeL_some e
  obtain ⟨x, e2, r⟩ := S.at_ i v e1
  exact ⟨x, by rw [L2.wipe_out n]; exact e2, r⟩
theorem wipe_wipe {σ : L2.St} {vs : List Nat} : ∀ {us : List Nat}, (∀ u ∈ us, u ∈ vs) → L2.wipe (L2.wipe σ us) vs = L2.wipe σ vs
  | [], _ => rfl
  | u :: us, h => by
    show L2.wipe ((L2.wipe σ us).set u none) vs = _
    rw [wipe_set (h u (List.mem_cons_self ..)), wipe_wipe fun w hw => h w (List.mem_cons_of_mem _ hw)]
end

/-! ### the block -/
open Classical in
noncomputable def lcL (t : Tg) (c : DenG Bool) (e : Den) (s : Src) : List Val → List Val → Loc → Hv → Res (List Val)
  | [], acc, _, h => if srcOk s h then .ok acc h else .fail
  | x :: r, acc, l, h => if srcOk s h then (match t x l h with
    | .ok l1 h1 => (match c l1 h1 with
      | .ok b h2 => if b = true then (match e l1 h2 with
        | .ok v h3 => lcL t c e s r (acc ++ [v]) l h3
        | _ => .fail) else lcL t c e s r acc l h2
      | _ => .fail)
    | _ => .fail) else .fail
/-- what becomes of the items: a list that nobody writes, or one of ours -/
def frozen (ys : List Val) (h : Hv) : Res Val := .ok (.lst ys) h
def ours (ys : List Val) (h : Hv) : Res Val := .ok (.ref h.length) (h ++ [.lst ys])
noncomputable def dLc (fin : List Val → Hv → Res Val) (vs : List Nat) (di : DenG Src) (t : Tg) (c : DenG Bool) (e : Den) : Den := fun l h => (di l h).bind fun s h1 => (lcL t c e s s.1 [] (wipeL l vs) h1).bind fin
def W0 : WX := fun _ _ _ _ => False
/-- what a list at a new place may become -/
def FinOk (K : PySem.W.Frag) (fin : List Val → Hv → Res Val) : Prop := ∀ {W : WX} {σ : L2.St} {g1 g2 : Gh} {H1 H : Hp} {h : Hv} {Q : VK} {D : Addr} {ys : List Val} {xs : List V},
  H1 D = none → (∀ b ∈ g1.r, ∃ o, H1 b = some o) → D ∈ g2.r → g2.r = D :: g1.r → H D = some (.lst xs) → Ext g1 H1 ⟨g2.m, g1.r⟩ H → HR K g2 H h → VRs K g2 H ys xs → After K W (vr K) σ g1 H1 Q (fin ys h) → Q (.ref D) H
theorem fin_frozen {K : PySem.W.Frag} : FinOk K frozen := by
  intro W σ g1 g2 H1 H h Q D ys xs nD al hD er eD E R r A
  have hr : ∀ b ∈ g1.r, b ∈ g2.r := fun b hb => by rw [er]; exact List.mem_cons_of_mem _ hb
  refine A ⟨g2.m, g1.r⟩ H (.ref D) E (R.less hr) ?_
  simp only [VR]
  refine ⟨D, xs, rfl, ?_, eD, r.own (g' := ⟨g2.m, g1.r⟩) (t := []) (by simp) (show ∀ a, ¬ g2.own a → ¬ (Gh.mk g2.m g1.r).own a from fun a n z => n (z.elim .inl fun z => .inr (hr a z)))⟩
  rintro (z | z)
  · exact R.dis D z hD
  · obtain ⟨o, e⟩ := al D z
    rw [nD] at e; cases e
theorem fin_ours {K : PySem.W.Frag} : FinOk K ours := by
  intro W σ g1 g2 H1 H h Q D ys xs nD al hD er eD E R r A
  have hr : ∀ b ∈ g1.r, b ∈ g2.r := fun b hb => by rw [er]; exact List.mem_cons_of_mem _ hb
  have nm : D ∉ g2.m := fun z => R.dis D z hD
  have nr : D ∉ g1.r := fun z => by obtain ⟨o, e⟩ := al D z; rw [nD] at e; cases e
  obtain ⟨t, em, n⟩ := E.m
  have em : g2.m = g1.m ++ t := em
  have E' : Ext g1 H1 ⟨g2.m ++ [D], g1.r⟩ H := ⟨⟨t ++ [D], by show g2.m ++ [D] = _; rw [em, List.append_assoc], fun b hb => by
    rcases List.mem_append.mp hb with hb | hb
    · exact n b hb
    · rw [List.mem_singleton.mp hb]; exact nD⟩, rfl, E.keep, E.there⟩
  have hm : (Gh.mk (g2.m ++ [D]) g1.r).m = g2.m ++ [D] := rfl
  have ho : ∀ a, ¬ g2.own a → ¬ (Gh.mk (g2.m ++ [D]) g1.r).own a := fun a ha z => by
    rcases z with z | z
    · rcases List.mem_append.mp z with z | z
      · exact ha (.inl z)
      · exact ha (.inr (by rw [List.mem_singleton.mp z]; exact hD))
    · exact ha (.inr (hr a z))
  refine A ⟨g2.m ++ [D], g1.r⟩ H (.ref D) E' ⟨by simp [R.len], ?_, fun a ha => ?_, fun a ha => R.al a (hr a ha), fun i o a e1 e2 => ?_⟩ ?_
  · show (g2.m ++ [D]).Nodup
    refine List.nodup_append.mpr ⟨R.nd, by simp, fun a ha b hb => ?_⟩
    rw [List.mem_singleton.mp hb]
    rintro rfl
    exact nm ha
  · have ha : a ∈ g2.m ++ [D] := ha
    rcases List.mem_append.mp ha with ha | ha
    · exact fun z => R.dis a ha (hr a z)
    · rw [List.mem_singleton.mp ha]; exact nr
  · have e2 : (g2.m ++ [D])[i]? = some a := e2
    by_cases hi : i < h.length
    · rw [List.getElem?_append_left hi] at e1
      rw [List.getElem?_append_left (by rw [R.len]; exact hi)] at e2
      have q := R.obj i o a e1 e2
      cases o with
      | lst l => obtain ⟨xs, e, r⟩ := q; exact ⟨xs, e, r.own hm ho⟩
      | dic l => obtain ⟨xs, e, r⟩ := q; exact ⟨xs, e, r.1, r.2.own hm ho⟩
      | ins c f => obtain ⟨dx, gs, e, r⟩ := q; exact ⟨dx, gs, e, r.1, r.2.own hm ho⟩
    · have hi' : i = h.length := by
        have := (List.getElem?_eq_some_iff.mp e1).1
        simp at this
        omega
      subst hi'
      rw [List.getElem?_append_right (Nat.le_refl _)] at e1
      rw [List.getElem?_append_right (by rw [R.len]; exact Nat.le_refl _)] at e2
      simp at e1
      rw [R.len] at e2
      simp at e2
      subst e1 e2
      exact ⟨xs, eD, r.own hm ho⟩
  · simp only [VR]
    refine ⟨D, rfl, ?_⟩
    show (g2.m ++ [D])[h.length]? = some D
    rw [← R.len]
    simp
section
variable {K : PySem.W.Frag}
theorem lc_red {W : WX} {fin : List Val → Hv → Res Val} (hfin : FinOk K fin) {vs : List Nat} {di : DenG Src} {t : Tg} {c : DenG Bool} {e : Den} {σ : L2.St} {H : Hp} {Q : VK} (z : tG K W (vr K) (dLc fin vs di t c e) σ H Q) :
    tLc (tI K W di) (tTc K vs t) (tG K W0 br c) (tG K W0 (vr K) e) vs σ H Q := by
  obtain ⟨g, l, h, S, R, A⟩ := z
  refine ⟨g, l, h, S, R, ?_⟩
  unfold dLc at A
  unfold AfterI
  cases ed : di l h with
  | exc x h1 => rw [ed] at A; exact A
  | fail => rw [ed] at A; exact A
  | ok s h1 =>
    rw [ed] at A
    simp only [Res.bind_ok] at A
    have ok1 : srcOk s h1 := by
      cases hs1 : s.1 with
      | nil =>
        rw [hs1] at A
        simp only [lcL] at A
        split at A
        · assumption
        · exact A.elim
      | cons x r =>
        rw [hs1] at A
        simp only [lcL] at A
        split at A
        · assumption
        · exact A.elim
    refine ⟨ok1, fun g1 H1 J E1 R1 hz sv D nD => ?_⟩
    have A := After.ext E1 A
    have al : ∀ b ∈ g1.r, ∃ o, H1 b = some o := fun b hb => R1.own_there (.inr hb)
    have S1 := S.ext R E1
    -- the new list is put aside
    have ES : ExtS g1 H1 ⟨g1.m, D :: g1.r⟩ (upd H1 D (.lst [])) := ⟨⟨[], by simp, by simp⟩, ⟨[D], rfl, fun b hb => by rw [List.mem_singleton.mp hb]; exact nD⟩, fun b o e hb => by rw [upd_ne (ne_of_none e nD)]; exact e⟩
    have RD : HR K ⟨g1.m, D :: g1.r⟩ (upd H1 D (.lst [])) h1 := by
      refine ⟨R1.len, R1.nd, fun a ha z => ?_, fun a ha => ?_, fun i o a e1 e2 => ?_⟩
      · rcases List.mem_cons.mp z with z | z
        · subst z; exact R1.fresh nD (.inl ha)
        · exact R1.dis a ha z
      · rcases List.mem_cons.mp ha with z | z
        · subst z; exact ⟨_, upd_same, trivial⟩
        · obtain ⟨ob, e, mo⟩ := R1.al a z
          exact ⟨ob, by rw [upd_ne (ne_of_none e nD)]; exact e, mo⟩
      · have q := R1.obj i o a e1 e2
        cases o with
        | lst l => obtain ⟨xs, e, r⟩ := q; exact ⟨xs, by rw [upd_ne (ne_of_none e nD)]; exact e, r.extS R1 ES⟩
        | dic l => obtain ⟨xs, e, r⟩ := q; exact ⟨xs, by rw [upd_ne (ne_of_none e nD)]; exact e, r.1, r.2.extS R1 ES⟩
        | ins c f => obtain ⟨dx, gs, e, r⟩ := q; exact ⟨dx, gs, by rw [upd_ne (ne_of_none e nD)]; exact e, r.1, r.2.extS R1 ES⟩
    let Wd : Nat → Hp → Prop := fun i H => ∃ g2 h2 ys xs, H D = some (.lst xs) ∧ Ext ⟨g1.m, D :: g1.r⟩ (upd H1 D (.lst [])) g2 (upd H D (.lst [])) ∧ HR K g2 H h2 ∧ VRs K g2 H ys xs ∧ xs.length ≤ i ∧ i ≤ s.1.length ∧
      After K W (vr K) σ g1 H1 Q ((lcL t c e s (s.1.drop i) ys (wipeL l vs) h2).bind fin)
    refine ⟨fun i m H => m = s.1.length - i ∧ Wd i H, ⟨s.1.length, by simp, ⟨g1.m, D :: g1.r⟩, h1, [], [], upd_same, by rw [upd_upd]; exact Ext.refl, RD, VRs.nil, by simp, Nat.zero_le _, by simpa using A⟩, ?_⟩
    rintro i m H ⟨rfl, g2, h2, ys, xs, eD, E, R2, r, hl, hil, A⟩
    have hDr : D ∈ g2.r := by rw [E.r]; exact List.mem_cons_self ..
    have hDm : D ∉ g2.m := fun z => R2.dis D z hDr
    obtain ⟨tm, em, nm⟩ := E.m
    have em : g2.m = g1.m ++ tm := em
    have nm : ∀ b ∈ tm, H1 b = none := fun b hb => by
      have q := nm b hb
      have hne : b ≠ D := by rintro rfl; rw [upd_same] at q; cases q
      rw [upd_ne hne] at q
      exact q
    have keep : ∀ b o, H1 b = some o → b ∉ g1.m → H b = some o := fun b o e hb => by
      have hne := ne_of_none e nD
      have q := E.keep b o (by rw [upd_ne hne]; exact e) hb
      rw [upd_ne hne] at q
      exact q
    have E2S : ExtS g1 H1 g2 H := ⟨⟨tm, em, nm⟩, ⟨[D], E.r, fun b hb => by rw [List.mem_singleton.mp hb]; exact nD⟩, fun b o e hb => keep b o e fun z => hb (.inl z)⟩
    have E2 : Ext g1 H1 ⟨g2.m, g1.r⟩ H := ⟨⟨tm, em, nm⟩, rfl, keep, fun b o e => by
      have hne := ne_of_none e nD
      obtain ⟨o', q⟩ := E.there b o (by rw [upd_ne hne]; exact e)
      rw [upd_ne hne] at q
      exact ⟨o', q⟩⟩
    have S2 : SR K g2 H (wipeL l vs) (wipe σ vs) := (S1.extS R1 E2S).wipe vs
    cases hd : s.1.drop i with
    | nil =>
      have hle : s.1.length ≤ i := List.drop_eq_nil_iff.mp hd
      rw [hd] at A
      simp only [lcL] at A
      split at A
      · rename_i ok
        exact .inl ⟨(sv g2 H h2 E2S R2 ok i).2 (Nat.le_antisymm hil hle), hfin nD al hDr E.r eD E2 R2 r A⟩
      · exact A.elim
    | cons v rest =>
      have hlt : i < s.1.length := by
        by_cases q : i < s.1.length
        · exact q
        · rw [List.drop_eq_nil_iff.mpr (by omega)] at hd; cases hd
      have hv : s.1[i]? = some v := by
        have q := congrArg List.head? hd
        rw [List.head?_drop] at q
        simpa using q
      have hr : s.1.drop (i + 1) = rest := by
        have q := congrArg List.tail hd
        rw [List.tail_drop] at q
        simpa using q
      rw [hd] at A
      simp only [lcL] at A
      split at A
      · rename_i ok
        obtain ⟨go, yl⟩ := (sv g2 H h2 E2S R2 ok i).1 v hv
        refine .inr ⟨go, Wd (i + 1), fun H' q => ⟨s.1.length - (i + 1), by omega, rfl, q⟩, fun x H' y => ?_⟩
        obtain ⟨E3, R3, rx⟩ := yl x H' y
        refine ⟨g2, wipeL l vs, h2, v, S2.ext R2 E3, R3, rx, ?_⟩
        cases et : t v (wipeL l vs) h2 with
        | exc x l1 h1 => rw [et] at A; exact A
        | fail => rw [et] at A; exact A
        | ok l3 h3 =>
          rw [et] at A
          simp only at A
          intro g4 H4 σ4 E4 R4 S4 w4
          refine ⟨w4.trans (wipe_wipe fun _ hu => hu), g4, l3, h3, S4, R4, ?_⟩
          cases ec : c l3 h3 with
          | exc x h1 => rw [ec] at A; exact A.elim
          | fail => rw [ec] at A; exact A.elim
          | ok b h5 =>
            rw [ec] at A
            simp only at A
            intro g5 H5 b' E5 R5 eb
            obtain rfl : b = b' := eb
            have E25 := (E3.trans E4).trans E5
            have keepD : ∀ {g6 : Gh} {H6 : Hp}, Ext g2 H g6 H6 → H6 D = some (.lst xs) := fun E6 => E6.keep D _ eD hDm
            cases b with
            | false =>
              rw [if_neg Bool.false_ne_true] at A ⊢
              exact ⟨g5, h5, ys, xs, keepD E25, E.trans (E25.reset hDm eD), R5, r.ext R2 E25, by omega, hlt, by rw [hr]; exact A⟩
            | true =>
              rw [if_pos rfl] at A ⊢
              refine ⟨g5, l3, h5, S4.ext R4 E5, R5, ?_⟩
              cases ee : e l3 h5 with
              | exc x h1 => rw [ee] at A; exact A.elim
              | fail => rw [ee] at A; exact A.elim
              | ok y h6 =>
                rw [ee] at A
                simp only at A
                intro g6 H6 xv E6 R6 rv
                have E26 := E25.trans E6
                have hD6 : D ∈ g6.r := by rw [E26.r]; exact hDr
                have k6 := keepD E26
                refine ⟨xs, k6, by omega, g6, h6, ys ++ [y], xs ++ [xv], upd_same, ?_, R6.reset hD6 k6 trivial trivial, ((r.ext R2 E26).append (.one rv)).reset hD6 k6 trivial, by simp; omega, hlt, by rw [hr]; exact A⟩
                rw [upd_upd]
                exact E.trans (E26.reset hDm eD)
      · exact A.elim
end
section
variable {X : Cx} {W : WX}
def GTs (X : Cx) (W : WX) (es : List Expr) (d : DenG Bool) : Prop := PTs X es (tG X.K W br d)
def dYes : DenG Bool := fun _ h => .ok true h
theorem gts_nil : GTs X W [] dYes := ⟨fun pins s σ H Q I ⟨g, l, h, S, R, A⟩ => (pts_nil (X := X)).run pins s σ H Q I (A g H true Ext.refl R rfl)⟩
theorem gts_one {c : Expr} {d : DenG Bool} (hc : GT X W c d) : GTs X W [c] d := pts_one hc
theorem ge_lc {fin : List Val → Hv → Res Val} (hfin : FinOk X.K fin) {elt tg iter : Expr} {ifs : List Expr} {scope : Scope} (own : List (Str × Nat)) {pos : Pos} {di : DenG Src} {t : Tg} {c : DenG Bool} {e : Den} (hc : X.calm = true) (hN : X.N.Nodup) (hi : GI X W tg iter di)
    (hg : ∀ (s : Shared) (H : Hp) (C : Addr) (cl : List (Str × Addr)) (fp : List Addr), GC (X.blk s H scope (compEnvC scope cl C X.env) fp) (own.map (·.2)) tg t) (ht : ∀ (s : Shared) (H : Hp) (C : Addr) (cl : List (Str × Addr)) (fp : List Addr), GTs (X.blk s H scope (compEnvC scope cl C X.env) fp) W0 ifs c)
    (he : ∀ (s : Shared) (H : Hp) (C : Addr) (cl : List (Str × Addr)) (fp : List Addr), GE (X.blk s H scope (compEnvC scope cl C X.env) fp) W0 elt e) (ok : blkC X.N X.env.scope scope own = true := by first | rfl | decide +kernel) (hs : ∀ x, foldedSetIterable iter X.env x = pure x := by intro _; rfl) :
    GE X W (.ListComp elt [⟨tg, iter, ifs, 0⟩] scope pos) (dLc fin (own.map (·.2)) di t c e) :=
  PE.imp (pe_lc (g := tTc X.K (own.map fun p : Str × Nat => p.2) t) (tt := tG X.K W0 br c) (te := tG X.K W0 (vr X.K) e) hc hN hi (blkOk_by ok) hg ht he hs) fun σ H Q z => lc_red hfin z
theorem gs_setLc {fin : List Val → Hv → Res Val} (hfin : FinOk X.K fin) (i : Nat) {y : Str} {py : Pos} {elt tg iter : Expr} {ifs : List Expr} {scope : Scope} (own : List (Str × Nat)) {pos spos : Pos} {di : DenG Src} {t : Tg} {c : DenG Bool} {e : Den} (hc : X.calm = true) (hN : X.N.Nodup) (hi : GI X W tg iter di)
    (hg : ∀ (s : Shared) (H : Hp) (C : Addr) (cl : List (Str × Addr)) (fp : List Addr), GC (X.blk s H scope (compEnvC scope cl C X.env) fp) (own.map (·.2)) tg t) (ht : ∀ (s : Shared) (H : Hp) (C : Addr) (cl : List (Str × Addr)) (fp : List Addr), GTs (X.blk s H scope (compEnvC scope cl C X.env) fp) W0 ifs c)
    (he : ∀ (s : Shared) (H : Hp) (C : Addr) (cl : List (Str × Addr)) (fp : List Addr), GE (X.blk s H scope (compEnvC scope cl C X.env) fp) W0 elt e)
    (hy : X.N[i]? = some y := by rfl) (hyl : X.env.scope.names.lookup y = some .local := by rfl) (hsw : swapsWith (.ListComp elt [⟨tg, iter, ifs, 0⟩] scope pos) (some (.Name y py)) spos.line X.env = pure true := by exact sw_true rfl rfl rfl (by decide +kernel))
    (ok : blkC X.N X.env.scope scope own = true := by first | rfl | decide +kernel) (hs : ∀ x, foldedSetIterable iter X.env x = pure x := by intro _; rfl) :
    GS X W (.Assign [.Name y py] (.ListComp elt [⟨tg, iter, ifs, 0⟩] scope pos) spos) (sAsg (dLc fin (own.map (·.2)) di t c e) (gName i)) := by
  refine PS.imp (ps_setLc (g := tTc X.K (own.map fun p : Str × Nat => p.2) t) (tt := tG X.K W0 br c) (te := tG X.K W0 (vr X.K) e) hc hN hy hyl hsw hi (blkOk_by ok) hg ht he hs) fun D σ H ⟨g, l, h, S, R, A⟩ => ?_
  refine lc_red hfin ?_
  refine tG_to S R A fun v h1 g1 H1 x E S1 R1 r1 A1 => ?_
  exact A1 g1 H1 _ Ext.refl R1 (S1.set i r1)
end
end GH
set_option Elab.async false
set_option linter.all false
set_option maxRecDepth 100000
set_option maxHeartbeats 1000000
set_option autoImplicit false
/-! Defs, calls, raise, try. -/
namespace GH
open PySem PySem.Spec PyProof.Rows L2

/-! ### what a def yields -/
def runDef (n : Nat) (body : Stm) (args : List Val) (h : Hv) : Res Val := match body (args.map some ++ List.replicate (n - args.length) none) h with
  | .nx _ h' => .ok .non h'
  | .rt v h' => .ok v h'
  | .exc e _ h' => .exc e h'
  | _ => .fail
/-- behind a call -/
def AfterC (K : PySem.W.Frag) (g : Gh) (H : Hp) (Q : VK) (E : XK) : Res Val → Prop
  | .ok v h' => ∀ g' H' x, Ext g H g' H' → HR K g' H' h' → VR K g' H' v x → Q x H'
  | .exc e h' => ∀ g' H' cls d, Ext g H g' H' → HR K g' H' h' → ER K g' H' e cls d → E cls d H'
  | .fail => False
abbrev DF := List Val → Hv → Res Val
def spG (K : PySem.W.Frag) (D : DF) (n : Nat) : Sp := fun vs H Q E => vs.length = n ∧ ∃ g h args, HR K g H h ∧ VRs K g H args vs ∧ AfterC K g H Q E (D args h)

/-! ### lists that are handed back are frozen, what is no longer reached is forgotten -/
mutual
def frz (f : Nat → Option Val) : Val → Option Val
  | .non => some .non
  | .bl b => some (.bl b)
  | .int i => some (.int i)
  | .str s => some (.str s)
  | .tup l => (frzs f l).map .tup
  | .lst l => (frzs f l).map .lst
  | .fz l => (frzs f l).map .fz
  | .ref i => f i
def frzs (f : Nat → Option Val) : List Val → Option (List Val)
  | [] => some []
  | v :: l => (frz f v).bind fun w => (frzs f l).map (w :: ·)
end
def frzN (h : Hv) (n0 : Nat) : Nat → Nat → Option Val
  | 0, i => if i < n0 then some (.ref i) else none
  | k + 1, i => if i < n0 then some (.ref i) else match h[i]? with
    | some (.lst l) => (frzs (frzN h n0 k) l).map .lst
    | _ => none
mutual
def below (n : Nat) : Val → Bool
  | .tup l => belows n l
  | .lst l => belows n l
  | .fz l => belows n l
  | .ref i => decide (i < n)
  | _ => true
def belows (n : Nat) : List Val → Bool
  | [] => true
  | v :: l => below n v && belows n l
end
def belowO (n : Nat) : Ob → Bool
  | .lst l => belows n l
  | .dic l => belows n (l.map (·.2))
  | .ins _ fs => belows n (fs.map (·.2))
def kept (n : Nat) (h h' : Hv) : Prop := n ≤ h'.length ∧ ∀ i < n, h'[i]? = h[i]? ∨ ∀ o, h'[i]? = some o → belowO n o = true
open Classical in
noncomputable def tidy (r : Res Val) (h : Hv) : Res Val := match r with
  | .ok v h' => if kept h.length h h' then (match frz (frzN h' h.length h'.length) v with
    | some w => .ok w (h'.take h.length)
    | none => .fail) else .fail
  | .exc e h' => if kept h.length h h' ∧ e.fs = [] then .exc e (h'.take h.length) else .fail
  | .fail => .fail
section
variable {K : PySem.W.Frag} {g g' : Gh} {H H0 : Hp} {t : List Addr}
mutual
theorem VR.cut {n : Nat} (hn : n = g.m.length) (hm : g'.m = g.m ++ t) (ho : ∀ a, ¬ g'.own a → ¬ g.own a) : ∀ {v : Val} {x : V}, below n v = true → VR K g' H v x → VR K g H v x
  | .non, x, _, q => by simpa only [VR] using q
  | .bl b, x, _, q => by simpa only [VR] using q
  | .int i, x, _, q => by simpa only [VR] using q
  | .str s, x, _, q => by simpa only [VR] using q
  | .tup l, x, b, q => by
    simp only [VR] at q ⊢
    obtain ⟨a, xs, e, s, r⟩ := q
    exact ⟨a, xs, e, s, VRs.cut hn hm ho b r⟩
  | .lst l, x, b, q => by
    simp only [VR] at q ⊢
    obtain ⟨a, xs, e, n, s, r⟩ := q
    exact ⟨a, xs, e, ho a n, s, VRs.cut hn hm ho b r⟩
  | .fz l, x, b, q => by
    simp only [VR] at q ⊢
    obtain ⟨a, xs, e, s, r⟩ := q
    exact ⟨a, xs, e, s, VRs.cut hn hm ho b r⟩
  | .ref i, x, b, q => by
    simp only [VR] at q ⊢
    obtain ⟨a, e, h⟩ := q
    have hi : i < n := by simpa [below] using b
    exact ⟨a, e, by rw [hm, List.getElem?_append_left (by omega)] at h; exact h⟩
theorem VRs.cut {n : Nat} (hn : n = g.m.length) (hm : g'.m = g.m ++ t) (ho : ∀ a, ¬ g'.own a → ¬ g.own a) : ∀ {l : List Val} {xs : List V}, belows n l = true → VRs K g' H l xs → VRs K g H l xs
  | [], xs, _, q => by simpa only [VRs] using q
  | v :: l, xs, b, q => by
    simp only [VRs] at q ⊢
    obtain ⟨x, r, e, q1, q2⟩ := q
    have b : below n v = true ∧ belows n l = true := by simpa [belows] using b
    exact ⟨x, r, e, VR.cut hn hm ho b.1 q1, VRs.cut hn hm ho b.2 q2⟩
end
mutual
theorem VR.low {n : Nat} (hn : n = g.m.length) : ∀ {v : Val} {x : V}, VR K g H v x → below n v = true
  | .non, x, q => rfl
  | .bl b, x, q => rfl
  | .int i, x, q => rfl
  | .str s, x, q => rfl
  | .tup l, x, q => by
    simp only [VR] at q
    obtain ⟨a, xs, e, s, r⟩ := q
    exact VRs.low hn r
  | .lst l, x, q => by
    simp only [VR] at q
    obtain ⟨a, xs, e, n, s, r⟩ := q
    exact VRs.low hn r
  | .fz l, x, q => by
    simp only [VR] at q
    obtain ⟨a, xs, e, s, r⟩ := q
    exact VRs.low hn r
  | .ref i, x, q => by
    simp only [VR] at q
    obtain ⟨a, e, h⟩ := q
    have := (List.getElem?_eq_some_iff.mp h).1
    simp only [below, decide_eq_true_eq]
    omega
theorem VRs.low {n : Nat} (hn : n = g.m.length) : ∀ {l : List Val} {xs : List V}, VRs K g H l xs → belows n l = true
  | [], xs, q => rfl
  | v :: l, xs, q => by
    simp only [VRs] at q
    obtain ⟨x, r, e, q1, q2⟩ := q
    simp only [belows, VR.low hn q1, VRs.low hn q2, Bool.and_self]
end
theorem OR.low {n : Nat} (hn : n = g.m.length) {a : Addr} {o : Ob} (q : OR K g H a o) : belowO n o = true := by
  cases o with
  | lst l => obtain ⟨xs, e, r⟩ := q; exact r.low hn
  | dic l => obtain ⟨xs, e, r⟩ := q; exact r.2.low hn
  | ins c f => obtain ⟨dx, gs, e, r⟩ := q; exact r.2.low hn
theorem OR.cut {n : Nat} (hn : n = g.m.length) (hm : g'.m = g.m ++ t) (ho : ∀ a, ¬ g'.own a → ¬ g.own a) {a : Addr} {o : Ob} (b : belowO n o = true) (q : OR K g' H a o) : OR K g H a o := by
  cases o with
  | lst l => obtain ⟨xs, e, r⟩ := q; exact ⟨xs, e, r.cut hn hm ho b⟩
  | dic l => obtain ⟨xs, e, r⟩ := q; exact ⟨xs, e, r.1, r.2.cut hn hm ho b⟩
  | ins c f => obtain ⟨dx, gs, e, r⟩ := q; exact ⟨dx, gs, e, r.1, r.2.cut hn hm ho b⟩
mutual
theorem frz_ok {f : Nat → Option Val} (hf : ∀ i w x, f i = some w → VR K g' H (.ref i) x → VR K g H w x) (ho : ∀ a, ¬ g'.own a → ¬ g.own a) : ∀ {v w : Val} {x : V}, frz f v = some w → VR K g' H v x → VR K g H w x
  | .non, w, x, e, q => by simp only [frz, Option.some.injEq] at e; subst e; simpa only [VR] using q
  | .bl b, w, x, e, q => by simp only [frz, Option.some.injEq] at e; subst e; simpa only [VR] using q
  | .int i, w, x, e, q => by simp only [frz, Option.some.injEq] at e; subst e; simpa only [VR] using q
  | .str s, w, x, e, q => by simp only [frz, Option.some.injEq] at e; subst e; simpa only [VR] using q
  | .tup l, w, x, e, q => by
    simp only [frz, Option.map_eq_some_iff] at e
    obtain ⟨k, e, rfl⟩ := e
    simp only [VR] at q ⊢
    obtain ⟨a, xs, e2, s, r⟩ := q
    exact ⟨a, xs, e2, s, frzs_ok hf ho e r⟩
  | .lst l, w, x, e, q => by
    simp only [frz, Option.map_eq_some_iff] at e
    obtain ⟨k, e, rfl⟩ := e
    simp only [VR] at q ⊢
    obtain ⟨a, xs, e2, n, s, r⟩ := q
    exact ⟨a, xs, e2, ho a n, s, frzs_ok hf ho e r⟩
  | .fz l, w, x, e, q => by
    simp only [frz, Option.map_eq_some_iff] at e
    obtain ⟨k, e, rfl⟩ := e
    simp only [VR] at q ⊢
    obtain ⟨a, xs, e2, s, r⟩ := q
    exact ⟨a, xs, e2, s, frzs_ok hf ho e r⟩
  | .ref i, w, x, e, q => hf i w x e q
theorem frzs_ok {f : Nat → Option Val} (hf : ∀ i w x, f i = some w → VR K g' H (.ref i) x → VR K g H w x) (ho : ∀ a, ¬ g'.own a → ¬ g.own a) : ∀ {l k : List Val} {xs : List V}, frzs f l = some k → VRs K g' H l xs → VRs K g H k xs
  | [], k, xs, e, q => by simp only [frzs, Option.some.injEq] at e; subst e; simpa only [VRs] using q
  | v :: l, k, xs, e, q => by
    simp only [frzs, Option.bind_eq_some_iff, Option.map_eq_some_iff] at e
    obtain ⟨w, e1, k', e2, rfl⟩ := e
    simp only [VRs] at q ⊢
    obtain ⟨x, r, e3, q1, q2⟩ := q
    exact ⟨x, r, e3, frz_ok hf ho e1 q1, frzs_ok hf ho e2 q2⟩
end
theorem frzN_ok {h h' : Hv} (R : HR K g H0 h) (R' : HR K g' H h') (E : Ext g H0 g' H) (hm : g'.m = g.m ++ t) (ho : ∀ a, ¬ g'.own a → ¬ g.own a) : ∀ (k i : Nat) (w : Val) (x : V), frzN h' h.length k i = some w → VR K g' H (.ref i) x → VR K g H w x := by
  intro k
  have low : ∀ (i : Nat) (x : V), i < h.length → VR K g' H (.ref i) x → VR K g H (.ref i) x := fun i x hi q => by
    simp only [VR] at q ⊢
    obtain ⟨a, e, q⟩ := q
    exact ⟨a, e, by rw [hm, List.getElem?_append_left (by rw [R.len]; exact hi)] at q; exact q⟩
  induction k with
  | zero =>
    intro i w x e q
    simp only [frzN] at e
    split at e
    · rename_i hi
      cases e
      exact low i x hi q
    · cases e
  | succ k ih =>
    intro i w x e q
    simp only [frzN] at e
    split at e
    · rename_i hi
      cases e
      exact low i x hi q
    · rename_i hi
      split at e
      · rename_i l hl
        simp only [Option.map_eq_some_iff] at e
        obtain ⟨ys, e, rfl⟩ := e
        simp only [VR] at q
        obtain ⟨a, rfl, q⟩ := q
        obtain ⟨xs, e1, r⟩ := R'.obj i _ a hl q
        simp only [VR]
        refine ⟨a, xs, rfl, ?_, e1, frzs_ok ih ho e r⟩
        rintro (z | z)
        · obtain ⟨j, hj, ej⟩ := List.getElem_of_mem z
          have hj' : g'.m[j]? = some a := by
            rw [hm, List.getElem?_append_left hj, List.getElem?_eq_getElem hj, ej]
          have h1 := List.getElem?_eq_some_iff.mp q
          have h2 := List.getElem?_eq_some_iff.mp hj'
          obtain ⟨l1, p1⟩ := h1
          obtain ⟨l2, p2⟩ := h2
          have e3 : i = j := (List.getElem_inj R'.nd).mp (p1.trans p2.symm)
          rw [R.len] at hj
          omega
        · exact R'.dis a (List.mem_of_getElem? q) (by rw [E.r]; exact z)
      · cases e
theorem tidy_ok {h : Hv} {Q : VK} {E : XK} {r : Res Val} (R : HR K g H0 h) (A : AfterC K g H0 Q E (tidy r h)) : AfterC K g H0 Q E r := by
  have main : ∀ {g' : Gh} {H : Hp} {h' : Hv}, Ext g H0 g' H → HR K g' H h' → kept h.length h h' → Ext g H0 g H ∧ HR K g H (h'.take h.length) := fun {g' H h'} X R' kp => by
    obtain ⟨t, hm, nt⟩ := X.m
    have ho : ∀ a, ¬ g'.own a → ¬ g.own a := fun a n z => n (z.elim (fun z => .inl (by rw [hm]; exact List.mem_append_left _ z)) fun z => .inr (by rw [X.r]; exact z))
    refine ⟨⟨⟨[], by simp, by simp⟩, rfl, X.keep, X.there⟩, ⟨?_, R.nd, R.dis, fun a ha => R'.al a (by rw [X.r]; exact ha), fun i o a e1 e2 => ?_⟩⟩
    · rw [List.length_take, Nat.min_eq_left kp.1]; exact R.len
    · have hi : i < h.length := by rw [← R.len]; exact (List.getElem?_eq_some_iff.mp e2).1
      rw [List.getElem?_take_of_lt hi] at e1
      have hq : OR K g' H a o := R'.obj i o a e1 (by rw [hm, List.getElem?_append_left (by rw [R.len]; exact hi)]; exact e2)
      refine OR.cut (n := h.length) R.len.symm hm ho ?_ hq
      rcases kp.2 i hi with z | z
      · rw [z] at e1
        exact (R.obj i o a e1 e2).low R.len.symm
      · exact z o e1
  cases r with
  | ok v h' =>
    intro g' H x X R' rv
    simp only [tidy] at A
    split at A
    · rename_i kp
      split at A
      · rename_i w ew
        obtain ⟨E1, R1⟩ := main X R' kp
        obtain ⟨t, hm, nt⟩ := X.m
        have ho : ∀ a, ¬ g'.own a → ¬ g.own a := fun a n z => n (z.elim (fun z => .inl (by rw [hm]; exact List.mem_append_left _ z)) fun z => .inr (by rw [X.r]; exact z))
        exact A g H x E1 R1 (frz_ok (frzN_ok R R' X hm ho _) ho ew rv)
      · exact A.elim
    · exact A.elim
  | exc e h' =>
    intro g' H cls d X R' re
    simp only [tidy] at A
    split at A
    · rename_i kp
      obtain ⟨E1, R1⟩ := main X R' kp.1
      refine A g H cls d E1 R1 ?_
      unfold ER at re ⊢
      rw [kp.2] at re ⊢
      exact re
    · exact A.elim
  | fail => exact A
end

/-! ### a def keeps what its body yields -/
abbrev WD (E : XK) : WX := fun cls d _ H => E cls d H
section
variable {P : Program} {w : World} {K : PySem.W.Frag} {mg : Str → Option Value} {base : Heap}
theorem fn_G {name qual : Str} {params : Arguments} {body : List Stmt} {scope : Scope} {f : Addr} {fd : FuncData} {N ps : List Str} {k : Nat} {d : Stm} {D : DF} {dvs : List V} {kws : List (Str × V)} (F : FunD K name qual params body scope dvs kws f fd) (S : FnScope N ps scope)
    (hD : ∀ args h, args.length = ps.length → D args h = runDef N.length d args h ∨ D args h = tidy (runDef N.length d args h) h)
    (hbody : ∀ (cdv : Value) (A : Around) (outer : List Env) (s : Shared) (H : Hp) (E : XK), Room k (A.deeper (envOfC qual scope s.heap.objs.size f cdv)) →
      PassesOwn (model P w) (A.deeper (envOfC qual scope s.heap.objs.size f cdv)) (envOfC qual scope s.heap.objs.size f cdv) (cxOf (L2.CX P w) P w K mg base N qual scope f cdv A outer s H E).xe →
      Takes (cxOf (L2.CX P w) P w K mg base N qual scope f cdv A outer s H E) (WD E) →
      GSs (cxOf (L2.CX P w) P w K mg base N qual scope f cdv A outer s H E) (WD E) body d) : FnOk P w K mg base (L2.CX P w) (k + 1) f fd ps (spG K D ps.length) := by
  refine F.ok S (fun vs H Q E h => h.1) (fun cdv A outer s H vs Q E hr h => ⟨tS K (WD E) d, hbody cdv A outer s H E hr (passes_of rfl) (takes_of rfl rfl rfl rfl), ?_⟩)
  obtain ⟨hl, g, h, args, R, r, A⟩ := h
  have A : AfterC K g H Q E (runDef N.length d args h) := by
    rcases hD args h (by rw [r.length, hl]) with e | e
    · rw [e] at A; exact A
    · rw [e] at A; exact tidy_ok R A
  refine ⟨g, args.map some ++ List.replicate (N.length - args.length) none, h, ?_, R, ?_⟩
  · unfold L2.start
    refine ⟨by simp [r.length], fun i v e => ?_⟩
    by_cases hi : i < args.length
    · rw [List.getElem?_append_left (by simpa using hi), List.getElem?_map] at e
      cases ea : args[i]? with
      | none => rw [ea] at e; cases e
      | some a =>
        rw [ea] at e
        cases e
        obtain ⟨x, e1, e2⟩ := r.get ea
        exact ⟨x, by rw [List.getElem?_append_left (by simpa [← r.length] using hi), List.getElem?_map, e1]; rfl, e2⟩
    · rw [List.getElem?_append_right (by simpa using hi), List.getElem?_replicate] at e
      split at e <;> cases e
  · unfold runDef at A
    cases e : d (args.map some ++ List.replicate (N.length - args.length) none) h with
    | nx l h1 =>
      rw [e] at A
      intro g' H' σ' X R' S'
      exact A g' H' .non X R' (by simp only [VR])
    | rt v h1 => rw [e] at A; exact A
    | exc x l h1 =>
      rw [e] at A
      intro g' H' σ' cls dd X R' S' re
      exact A g' H' cls dd X R' re
    | bk l h1 => rw [e] at A; exact False.elim A
    | ct l h1 => rw [e] at A; exact False.elim A
    | fail => rw [e] at A; exact A
end

/-! ### calls -/
def dCall (D : DF) (r : DenG (List Val)) : Den := fun l h => (r l h).bind fun vs h1 => D vs h1
section
variable {X : Cx} {W : WX}
theorem spG_of {D : DF} {n : Nat} {σ : L2.St} {g : Gh} {H : Hp} {h : Hv} {Q : VK} {args : List Val} {vs : List V} (hn : args.length = n) (R : HR X.K g H h) (r : VRs X.K g H args vs) (A : After X.K W (vr X.K) σ g H Q (D args h)) : spG X.K D n vs H Q (WE W σ) := by
  refine ⟨by rw [← r.length]; exact hn, g, h, args, R, r, ?_⟩
  cases e : D args h with
  | ok v h1 => rw [e] at A; exact A
  | exc x h1 => rw [e] at A; exact A
  | fail => rw [e] at A; exact A
def arity (n : Nat) (D : DF) : DF := fun args h => if args.length = n then D args h else .fail
theorem ge_call {D : DF} {k : Nat} {f : Addr} {fd : FuncData} {ps : List Str} {x : Str} {p pos : Pos} {e : Expr} {es : List Expr} {da : DenG (List Val)} (F : FnOk X.prog X.w X.K X.mg X.base (L2.CX X.prog X.w) k f fd ps (spG X.K D ps.length)) (hr : Room k X.A) (tk : Takes X W)
    (hm : X.mg x = some (.ref f)) (hk : PySem.W.keepIn X.K (.ref f) = true) (hb : Binds X.K fd ps []) (ha : GA X W (e :: es) da) (hn : ∀ l h vs h', da l h = .ok vs h' → vs.length = ps.length) (hg : Gl X x := by rfl) (hdb : (x == ("__debug__" : Str)) = false := by decide +kernel)
    (he : starEach (e :: es) X.env = (false, eval e X.env) :: starEach es X.env := by rfl) (hpl : (backTo pos (starEach es X.env)).any (·.1) = false := by rfl) : GE X W (.Call (.Name x p) (e :: es) [] pos) (dCall D da) := by
  refine PE.imp (pe_callS F hr hg hm hk hb (fun σ => passAt tk σ) ha hdb he hpl) fun σ H Q ⟨g, l, h, S, R, A⟩ => ?_
  refine ⟨g, l, h, S, R, ?_⟩
  unfold dCall at A
  cases ed : da l h with
  | ok vs h1 =>
    rw [ed] at A
    intro g' H' ws E R' r
    exact spG_of (hn l h vs h1 ed) R' r (After.ext E A)
  | exc x h1 => rw [ed] at A; exact A
  | fail => rw [ed] at A; exact A

/-! ### raise, try -/
def sRaise (c : List Nat) : Stm := fun l h => .exc ⟨c, []⟩ l h
theorem gs_raise (c : List Nat) {x m : Str} {j : Nat} {p p2 pos pos2 : Pos} (hc : X.calm = true) (tk : Takes X W) (q : PySem.W.excIn X.K (clsA X.K c) He.veBase "ValueError.__new__" = true) (gC : X.mg x = some (.ref (clsA X.K c))) (kC : PySem.W.keepIn X.K (.ref (clsA X.K c)) = true)
    (h1 : PySem.W.subIn X.K (.ref (clsA X.K c)) (.type "BaseException") = some true) (h2 : PySem.W.typeIn X.K (.ref (clsA X.K c)) = some (.type "type")) (hg : Gl X x := by rfl) (hdb : (x == ("__debug__" : Str)) = false := by decide +kernel) :
    GS X W (.Raise (some (.Call (.Name x p) [.Constant (.str m) j p2] [] pos)) none pos2) (sRaise c) := by
  refine PS.imp (ps_raise hc tk (pmk_own PySem.F.excBase_ValueError q gC kC (raises_own h1 h2) hg hdb)) fun D σ H ⟨g, l, h, S, R, A⟩ => ?_
  exact A g H σ _ none Ext.refl R S ⟨rfl, rfl⟩
def SRes.noExc (r : SRes) : SRes := match r with
  | .exc _ _ _ => .fail
  | r => r
@[simp] theorem SRes.noExc_nx (l : Loc) (h : Hv) : (SRes.nx l h).noExc = .nx l h := rfl
@[simp] theorem SRes.noExc_rt (v : Val) (h : Hv) : (SRes.rt v h).noExc = .rt v h := rfl
/-- body; where it raises what the class takes, the suite -/
def sTry (tbl : List (List Nat × Bool)) (body suite : Stm) : Stm := fun l h => match body l h with
  | .exc e l1 h1 => (match tbl.lookup e.c with
    | some true => (suite l1 h1).noExc
    | some false => .exc e l1 h1
    | none => .fail)
  | r => r
theorem AfterS.mono {K : PySem.W.Frag} {W W' : WX} {g : Gh} {H : Hp} {D : Ends} {r : SRes} (A : AfterS K W g H D r) (h : ∀ cls d σ H, W cls d σ H → W' cls d σ H) : AfterS K W' g H D r := by
  cases r with
  | exc e l h1 => exact fun g' H' σ' cls d E R S re => h _ _ _ _ (A g' H' σ' cls d E R S re)
  | nx l h1 => exact A
  | bk l h1 => exact A
  | ct l h1 => exact A
  | rt l h1 => exact A
  | fail => exact A
theorem gs_try (tbl : List (List Nat × Bool)) {x : Str} {c : Value} {body suite : List Stmt} {b₀ : Stmt} {np pos pos' : Pos} {db ds : Stm} (hs : X.stack = X.env :: X.outer) (hf : X.env.frame = some X.env.locals) (hc : Names X x c) (tk : Takes X W)
    (ht : ∀ p ∈ tbl, PySem.W.exmOne X.K (.ref (clsA X.K p.1)) c = some p.2)
    (hb : ∀ (W' : WX) (pn : List (Addr × Obj)) (xe : Value → Shared → Prop), Takes (X.tr pn xe) W' → PassesOwn (model X.prog X.w) X.A X.env xe → GSs (X.tr pn xe) W' body db)
    (hsu : ∀ (a : Addr) (pn : List (Addr × Obj)), GSs (X.suite a pn) W0 (b₀ :: suite) ds) :
    GS X W (.Try body [.ExceptHandler (some (.Name x np)) none (b₀ :: suite) pos'] [] [] pos) (sTry tbl db ds) := by
  refine PS.imp (ps_try_only (tb := fun W' => tS X.K W' db) (ts := fun a cls d => tS X.K W0 ds) hs hf hc tk hb (fun a oe cls d pn _ _ => hsu a _)) fun D σ H ⟨g, l, h, S, R, A⟩ => ?_
  refine ⟨g, l, h, S, R, ?_⟩
  unfold sTry at A
  cases e : db l h with
  | nx l1 h1 => rw [e] at A; exact A
  | bk l1 h1 => rw [e] at A; exact A
  | ct l1 h1 => rw [e] at A; exact A
  | rt l1 h1 => rw [e] at A; exact A
  | fail => rw [e] at A; exact A
  | exc x1 l1 h1 =>
    rw [e] at A
    simp only at A
    intro g' H' σ' cls d E R' S' re
    cases el : tbl.lookup x1.c with
    | none => rw [el] at A; exact A.elim
    | some b =>
      rw [el] at A
      have hm : ∃ y, (y, b) ∈ tbl ∧ y = x1.c := by
        have gen : ∀ (tb : List (List Nat × Bool)), tb.lookup x1.c = some b → ∃ y, (y, b) ∈ tb ∧ y = x1.c := by
          intro tb
          induction tb with
          | nil => intro z; cases z
          | cons p tb ih =>
            intro z
            rw [List.lookup_cons] at z
            split at z
            · rename_i q
              cases z
              exact ⟨p.1, List.mem_cons_self .., (by simpa using q : x1.c = p.1).symm⟩
            · obtain ⟨y, h1, h2⟩ := ih z
              exact ⟨y, List.mem_cons_of_mem _ h1, h2⟩
        exact gen tbl el
      obtain ⟨y, hy, rfl⟩ := hm
      have he := ht _ hy
      rw [← re.1] at he
      refine ⟨b, he, fun hb a na => ?_, fun hb => ?_⟩
      · subst hb
        have A2 : AfterS X.K W g' H' D (ds l1 h1).noExc := AfterS.ext E A
        refine ⟨g', l1, h1, S', R', ?_⟩
        cases es : ds l1 h1 with
        | exc x2 l2 h2 => rw [es] at A2; exact False.elim A2
        | nx l2 h2 => rw [es] at A2; exact A2
        | bk l2 h2 => rw [es] at A2; exact A2
        | ct l2 h2 => rw [es] at A2; exact A2
        | rt l2 h2 => rw [es] at A2; exact A2
        | fail => rw [es] at A2; exact A2
      · subst hb
        exact A g' H' σ' cls d E R' S' re
end
end GH
set_option Elab.async false
set_option linter.all false
set_option maxRecDepth 100000
set_option maxHeartbeats 1000000
set_option autoImplicit false
/-! ==, in, isinstance, slices, built-ins over lists, dicts. -/
namespace GH
open PySem PySem.Spec PyProof.Rows L2

/-! ### values as data -/
mutual
def pd : Val → PyData
  | .non => .none
  | .bl b => .bool b
  | .int i => .int i
  | .str s => .str (sOf s)
  | .tup l => .tuple (pds l)
  | .lst l => .list (pds l)
  | .fz l => .list (pds l)
  | .ref _ => .none
def pds : List Val → List PyData
  | [] => []
  | v :: l => pd v :: pds l
end
mutual
/-- no object of the heap in it, texts of proper signs -/
def okV : Val → Bool
  | .str s => s.all fun c => decide (c < 0x110000)
  | .tup l => okVs l
  | .lst l => okVs l
  | .fz l => okVs l
  | .ref _ => false
  | _ => true
def okVs : List Val → Bool
  | [] => true
  | v :: l => okV v && okVs l
end
mutual
def dpV : Val → Nat
  | .tup l => dpVs l + 1
  | .lst l => dpVs l + 1
  | .fz l => dpVs l + 1
  | _ => 0
def dpVs : List Val → Nat
  | [] => 0
  | v :: l => max (dpV v) (dpVs l)
end
mutual
theorem pd_depth : ∀ v : Val, (pd v).depth = dpV v
  | .non => rfl
  | .bl b => rfl
  | .int i => rfl
  | .str s => rfl
  | .tup l => by simp only [pd, PyData.depth, dpV, pds_depth l]
  | .lst l => by simp only [pd, PyData.depth, dpV, pds_depth l]
  | .fz l => by simp only [pd, PyData.depth, dpV, pds_depth l]
  | .ref i => rfl
theorem pds_depth : ∀ l : List Val, PyData.depthAll (pds l) = dpVs l
  | [] => rfl
  | v :: l => by simp only [pds, PyData.depthAll, dpVs, pd_depth v, pds_depth l]
end
mutual
theorem pd_lay : ∀ v : Val, okV v = true → (pd v).canLay0 = true
  | .non, _ => rfl
  | .bl b, _ => rfl
  | .int i, _ => rfl
  | .str s, h => by
    simp only [pd, PyData.canLay0, PyData.strOk, sOf]
    simpa [okV] using h
  | .tup l, h => by simp only [pd, PyData.canLay0]; exact pds_lay l h
  | .lst l, h => by simp only [pd, PyData.canLay0]; exact pds_lay l h
  | .fz l, h => by simp only [pd, PyData.canLay0]; exact pds_lay l h
  | .ref i, h => by cases h
theorem pds_lay : ∀ l : List Val, okVs l = true → PyData.canLayAll0 (pds l) = true
  | [], _ => rfl
  | v :: l, h => by
    have h : okV v = true ∧ okVs l = true := by simpa [okVs] using h
    simp only [pds, PyData.canLayAll0, pd_lay v h.1, pds_lay l h.2, Bool.and_self]
end
section
variable {K : PySem.W.Frag} {g : Gh} {H : Hp}
mutual
theorem VR.dp : ∀ {v : Val} {x : V}, okV v = true → VR K g H v x → Dp K H x (pd v)
  | .non, x, _, q => by simp only [VR] at q; subst q; exact .non
  | .bl b, x, _, q => by simp only [VR] at q; subst q; exact .bl b
  | .int i, x, _, q => by simp only [VR] at q; subst q; exact .int i
  | .str s, x, _, q => by simp only [VR] at q; subst q; exact .str _
  | .tup l, x, o, q => by
    simp only [VR] at q
    obtain ⟨a, xs, rfl, s, r⟩ := q
    exact .tup s (VRs.dp o r)
  | .lst l, x, o, q => by
    simp only [VR] at q
    obtain ⟨a, xs, rfl, _, s, r⟩ := q
    exact .lst (SqL.of s) (VRs.dp o r)
  | .fz l, x, o, q => by
    simp only [VR] at q
    obtain ⟨a, xs, rfl, s, r⟩ := q
    exact .lst s.sq (VRs.dp o r)
  | .ref i, x, o, q => by cases o
theorem VRs.dp : ∀ {l : List Val} {xs : List V}, okVs l = true → VRs K g H l xs → DpAll K H xs (pds l)
  | [], xs, _, q => by simp only [VRs] at q; subst q; exact .nil
  | v :: l, xs, o, q => by
    simp only [VRs] at q
    obtain ⟨x, r, rfl, q1, q2⟩ := q
    have o : okV v = true ∧ okVs l = true := by simpa [okVs] using o
    exact .cons (VR.dp o.1 q1) (VRs.dp o.2 q2)
end
end
def veq (a b : Val) : Bool := PyData.eqv (pd a) (pd b)
/-- a list of ours, read -/
def thaw (h : Hv) (v : Val) : Val := match v with
  | .ref i => match h[i]? with
    | some (.lst l) => .lst l
    | _ => v
  | v => v
theorem thaw_dp {K : PySem.W.Frag} {g : Gh} {H : Hp} {h : Hv} {v : Val} {x : V} (R : HR K g H h) (r : VR K g H v x) (o : okV (thaw h v) = true) : Dp K H x (pd (thaw h v)) := by
  cases v with
  | ref i =>
    simp only [thaw] at o ⊢
    split at o
    · rename_i l hl
      simp only [VR] at r
      obtain ⟨a, rfl, hm⟩ := r
      obtain ⟨xs, e1, e2⟩ := ref_at R hl hm
      exact .lst (SqL.of e1) (VRs.dp o e2)
    · cases o
  | _ => exact VR.dp o r
def eqOk (a b : Val) : Bool := okV a && okV b && decide (min (dpV a) (dpV b) ≤ 190)
def vEq (v u : Val) (h : Hv) : Res Val := match v, u with
  | .int i, .int j => .ok (.bl (decide (i = j))) h
  | .str a, .str b => .ok (.bl (decide (a = b))) h
  | v, u => if eqOk (thaw h v) (thaw h u) then .ok (.bl (veq (thaw h v) (thaw h u))) h else .fail
def vNe (v u : Val) (h : Hv) : Res Val := match v, u with
  | .int i, .int j => .ok (.bl (!decide (i = j))) h
  | .str a, .str b => .ok (.bl (!decide (a = b))) h
  | v, u => if eqOk (thaw h v) (thaw h u) then .ok (.bl (!veq (thaw h v) (thaw h u))) h else .fail
section
variable {X : Cx}
def rEqG (K : PySem.W.Frag) (neg : Bool) : R2 := fun x y H Q => ∃ d e, Dp K H x d ∧ Dp K H y e ∧ d.canLay0 = true ∧ e.canLay0 = true ∧ min d.depth e.depth ≤ 190 ∧ Q (.bl (if neg then !PyData.eqv d e else PyData.eqv d e)) H
theorem op_eqG (hu : X.A.units + 200 < cLine) : OpR X (compareOp .Eq) (rEqG X.K false) := by
  intro pins s σ H x y v u Q I rx ry h
  obtain ⟨d, e, hd, he, sd, se, hm, q⟩ := h
  obtain ⟨as, r1⟩ := Dp.reads I d x v hd rx
  obtain ⟨bs, r2⟩ := Dp.reads I e y u he ry
  exact SeqAt.compareEq_reads r1 r2 sd se (by omega) ⟨.bl _, H, I, rfl, q⟩
theorem op_neG (hu : X.A.units + 200 < cLine) : OpR X (compareOp .NotEq) (rEqG X.K true) := by
  intro pins s σ H x y v u Q I rx ry h
  obtain ⟨d, e, hd, he, sd, se, hm, q⟩ := h
  obtain ⟨as, r1⟩ := Dp.reads I d x v hd rx
  obtain ⟨bs, r2⟩ := Dp.reads I e y u he ry
  exact SeqAt.compareNe_reads r1 r2 sd se (by omega) ⟨.bl _, H, I, rfl, q⟩
theorem eqG_ok {W : WX} {g : Gh} {H : Hp} {h : Hv} {σ : L2.St} {v u : Val} {x y : V} {Q : VK} {neg : Bool} (R : HR X.K g H h) (rv : VR X.K g H v x) (ru : VR X.K g H u y)
    (A : After X.K W (vr X.K) σ g H Q (if eqOk (thaw h v) (thaw h u) then .ok (.bl (if neg then !veq (thaw h v) (thaw h u) else veq (thaw h v) (thaw h u))) h else .fail)) : rEqG X.K neg x y H Q := by
  split at A
  · rename_i o
    simp only [eqOk, Bool.and_eq_true, decide_eq_true_eq] at o
    exact ⟨_, _, thaw_dp R rv o.1.1, thaw_dp R ru o.1.2, pd_lay _ o.1.1, pd_lay _ o.1.2, by rw [pd_depth, pd_depth]; exact o.2, A g H _ Ext.refl R (by simp only [VR]; rfl)⟩
  · exact A.elim
theorem og_eq (hu : X.A.units + 200 < cLine) : OpG X (compareOp .Eq) vEq := by
  refine ⟨_, op_eq.or (op_eqG hu), fun W g H h σ v u x y Q R rv ru A => ?_⟩
  unfold vEq at A
  split at A
  · simp only [VR] at rv ru
    subst rv ru
    refine .inl ⟨rfl, ?_⟩
    rename_i i j
    have e : decide (V.int i = V.int j) = decide (i = j) := by by_cases q : i = j <;> simp [q]
    rw [e]
    exact A g H _ Ext.refl R (by simp only [VR])
  · simp only [VR] at rv ru
    subst rv ru
    refine .inl ⟨rfl, ?_⟩
    rename_i i j
    have e : decide (V.str (sOf i) = V.str (sOf j)) = decide (i = j) := by
      by_cases q : i = j
      · simp [q]
      · have : ¬ V.str (sOf i) = V.str (sOf j) := fun z => q (sOf_inj (V.str.inj z))
        simp [q, this]
    rw [e]
    exact A g H _ Ext.refl R (by simp only [VR])
  · exact .inr (eqG_ok (neg := false) R rv ru A)
theorem og_ne (hu : X.A.units + 200 < cLine) : OpG X (compareOp .NotEq) vNe := by
  refine ⟨_, op_ne.or (op_neG hu), fun W g H h σ v u x y Q R rv ru A => ?_⟩
  unfold vNe at A
  split at A
  · simp only [VR] at rv ru
    subst rv ru
    refine .inl ⟨rfl, ?_⟩
    rename_i i j
    have e : decide (V.int i = V.int j) = decide (i = j) := by by_cases q : i = j <;> simp [q]
    rw [e]
    exact A g H _ Ext.refl R (by simp only [VR])
  · simp only [VR] at rv ru
    subst rv ru
    refine .inl ⟨rfl, ?_⟩
    rename_i i j
    have e : decide (V.str (sOf i) = V.str (sOf j)) = decide (i = j) := by
      by_cases q : i = j
      · simp [q]
      · have : ¬ V.str (sOf i) = V.str (sOf j) := fun z => q (sOf_inj (V.str.inj z))
        simp [q, this]
    rw [e]
    exact A g H _ Ext.refl R (by simp only [VR])
  · exact .inr (eqG_ok (neg := true) R rv ru A)

/-! ### in -/
def inSeq (x : Val) (l : List Val) : Bool := l.any fun z => veq z x
def inOk (x : Val) (l : List Val) : Bool := okV x && okVs l && decide (min (dpVs l) (dpV x) ≤ 190)
/-- x in c -/
def isIn (x c : Val) (h : Hv) : Res Bool := match c with
  | .str s => match x with
    | .str [a] => .ok (s.contains a) h
    | _ => .fail
  | c => match seqOf h c with
    | some l => if inOk (thaw h x) l then .ok (inSeq (thaw h x) l) h else .fail
    | none => match dicOf h c, keyOf x with
      | some l, some _ => .ok (dGet l x).isSome h
      | _, _ => .fail
def vIn (x c : Val) (h : Hv) : Res Val := (isIn x c h).bind fun b h1 => .ok (.bl b) h1
def vNotIn (x c : Val) (h : Hv) : Res Val := (isIn x c h).bind fun b h1 => .ok (.bl (!b)) h1
def rInG (K : PySem.W.Frag) (neg : Bool) : R2 := fun x y H Q => ∃ d ds, Dp K H x d ∧ (Dp K H y (.list ds) ∨ Dp K H y (.tuple ds)) ∧ d.canLay0 = true ∧ PyData.canLayAll0 ds = true ∧ min (PyData.depthAll ds) d.depth ≤ 190 ∧
  Q (.bl (if neg then !(ds.any fun z => PyData.eqv z d) else ds.any fun z => PyData.eqv z d)) H
theorem op_inG (hu : X.A.units + 200 < cLine) : OpR X (compareOp .In) (rInG X.K false) := by
  intro pins s σ H x y v u Q I rx ry h
  obtain ⟨d, ds, hd, he | he, sd, se, hm, q⟩ := h
  · obtain ⟨as, r1⟩ := Dp.reads I d x v hd rx
    obtain ⟨bs, r2⟩ := Dp.reads I (.list ds) y u he ry
    exact SeqAt.in_list_reads r2 r1 se sd (by omega) ⟨.bl _, H, I, rfl, q⟩
  · obtain ⟨as, r1⟩ := Dp.reads I d x v hd rx
    obtain ⟨bs, r2⟩ := Dp.reads I (.tuple ds) y u he ry
    exact SeqAt.in_tuple_reads r2 r1 se sd (by omega) ⟨.bl _, H, I, rfl, q⟩
theorem op_notInG (hu : X.A.units + 200 < cLine) : OpR X (compareOp .NotIn) (rInG X.K true) := by
  intro pins s σ H x y v u Q I rx ry h
  obtain ⟨d, ds, hd, he | he, sd, se, hm, q⟩ := h
  · obtain ⟨as, r1⟩ := Dp.reads I d x v hd rx
    obtain ⟨bs, r2⟩ := Dp.reads I (.list ds) y u he ry
    exact SeqAt.notIn_list_reads r2 r1 se sd (by omega) ⟨.bl _, H, I, rfl, q⟩
  · obtain ⟨as, r1⟩ := Dp.reads I d x v hd rx
    obtain ⟨bs, r2⟩ := Dp.reads I (.tuple ds) y u he ry
    exact SeqAt.notIn_tuple_reads r2 r1 se sd (by omega) ⟨.bl _, H, I, rfl, q⟩
def rInS (neg : Bool) : R2 := fun x y H Q => ∃ (c : Nat) (z : Str), x = .str ⟨#[c]⟩ ∧ y = .str z ∧ Q (.bl (if neg then !decide (c ∈ z.cps.toList) else decide (c ∈ z.cps.toList))) H
def rInDc (neg : Bool) : R2 := fun x y H Q => ∃ a o, y = .ref a ∧ DGet H a x o ∧ Q (.bl (if neg then !o.isSome else o.isSome)) H
theorem op_inD' (hu : X.A.units + 200 < cLine) : OpR X (compareOp .In) (rInDc false) := by
  intro pins s σ H x y v u Q I rx ry h
  obtain ⟨a, o, rfl, g, q⟩ := h
  obtain rfl : u = Value.ref a := ry
  exact d_in (by omega) I g rx fun s' I' => ⟨.bl _, H, I', rfl, q⟩
theorem op_notInD' (hu : X.A.units + 200 < cLine) : OpR X (compareOp .NotIn) (rInDc true) := by
  intro pins s σ H x y v u Q I rx ry h
  obtain ⟨a, o, rfl, g, q⟩ := h
  obtain rfl : u = Value.ref a := ry
  exact d_notIn (by omega) I g rx fun s' I' => ⟨.bl _, H, I', rfl, q⟩
theorem any_pds (x : Val) : ∀ l : List Val, ((pds l).any fun z => PyData.eqv z (pd x)) = inSeq x l
  | [] => rfl
  | v :: l => by simp only [pds, List.any_cons, inSeq, veq, any_pds x l]
theorem seqOf_dp {K : PySem.W.Frag} {g : Gh} {H : Hp} {h : Hv} {v : Val} {x : V} {l : List Val} (R : HR K g H h) (r : VR K g H v x) (e : seqOf h v = some l) (o : okVs l = true) : Dp K H x (.list (pds l)) ∨ Dp K H x (.tuple (pds l)) := by
  obtain ⟨a, xs, rfl, s, rs⟩ := seqOf_ok R r e
  rcases s with s | s
  · exact .inl (.lst s (VRs.dp o rs))
  · exact .inr (.tup s (VRs.dp o rs))
theorem isIn_ok {W : WX} {g : Gh} {H : Hp} {h : Hv} {σ : L2.St} {v u : Val} {x y : V} {Q : VK} (neg : Bool) (R : HR X.K g H h) (rv : VR X.K g H v x) (ru : VR X.K g H u y)
    (A : After X.K W (vr X.K) σ g H Q ((isIn v u h).bind fun b h1 => .ok (.bl (if neg then !b else b)) h1)) : rInS neg x y H Q ∨ rInG X.K neg x y H Q ∨ rInDc neg x y H Q := by
  unfold isIn at A
  split at A
  · rename_i s
    split at A
    · rename_i a
      simp only [VR] at rv ru
      subst rv ru
      refine .inl ⟨a, _, rfl, rfl, ?_⟩
      have e : decide (a ∈ (sOf s).cps.toList) = s.contains a := by rw [Bool.eq_iff_iff]; exact ⟨fun z => by simpa [sOf] using of_decide_eq_true z, fun z => decide_eq_true (by simpa [sOf] using z)⟩
      rw [e]
      exact A g H _ Ext.refl R (by simp only [VR])
    · exact A.elim
  · split at A
    · rename_i l hl
      split at A
      · rename_i o
        simp only [inOk, Bool.and_eq_true, decide_eq_true_eq] at o
        refine .inr (.inl ⟨pd (thaw h v), pds l, thaw_dp R rv o.1.1, seqOf_dp R ru hl o.1.2, pd_lay _ o.1.1, pds_lay _ o.1.2, by rw [pds_depth, pd_depth]; exact o.2, ?_⟩)
        rw [any_pds]
        exact A g H _ Ext.refl R (by simp only [VR])
      · exact A.elim
    · split at A
      · rename_i l k hl hk
        obtain ⟨i, a, ks, rfl, rfl, hm, hi, ha, d⟩ := dicOf_ok R ru hl
        obtain ⟨d1, d2⟩ := DR.get hk d
        have A : After X.K W (vr X.K) σ g H Q (.ok (.bl (if neg then !(dGet l v).isSome else (dGet l v).isSome)) h) := A
        rw [key_V rv hk]
        have hs : (valV ks k).isSome = (dGet l v).isSome := by
          cases e : dGet l v with
          | none => rw [d2 e]; rfl
          | some w => obtain ⟨z, e1, _⟩ := d1 w e; rw [e1]; rfl
        refine .inr (.inr ⟨a, _, rfl, DGet.k ha, ?_⟩)
        rw [hs]
        exact A g H _ Ext.refl R (by simp only [VR])
      · exact A.elim
theorem og_in (hu : X.A.units + 200 < cLine) : OpG X (compareOp .In) vIn :=
  ⟨_, (show OpR X (compareOp .In) (rInS false) from op_in_sign).or ((op_inG hu).or (op_inD' hu)), fun W g H h σ v u x y Q R rv ru A => isIn_ok false R rv ru A⟩
theorem og_notIn (hu : X.A.units + 200 < cLine) : OpG X (compareOp .NotIn) vNotIn :=
  ⟨_, (show OpR X (compareOp .NotIn) (rInS true) from op_notIn_sign).or ((op_notInG hu).or (op_notInD' hu)), fun W g H h σ v u x y Q R rv ru A => isIn_ok true R rv ru A⟩
end

/-! ### isinstance -/
inductive Ty where
  | non | bool | int | str | tuple | list | dict
  deriving DecidableEq
def Ty.name : Ty → String
  | .non => "NoneType" | .bool => "bool" | .int => "int" | .str => "str" | .tuple => "tuple" | .list => "list" | .dict => "dict"
def tyOf (h : Hv) : Val → Option Ty
  | .non => some .non
  | .bl _ => some .bool
  | .int _ => some .int
  | .str _ => some .str
  | .tup _ => some .tuple
  | .lst _ => some .list
  | .fz _ => some .list
  | .ref i => match h[i]? with
    | some (.lst _) => some .list
    | some (.dic _) => some .dict
    | _ => none
def isiB (a b : Ty) : Bool := decide (a = b) || (decide (a = .bool) && decide (b = .int))
theorem kitB_ok : ∀ a b : Ty, b ≠ .non → kitB a.name b.name = some (isiB a b) := by
  intro a b hb
  cases a <;> cases b <;> first | exact absurd rfl hb | decide +kernel
theorem tyOf_ok {K : PySem.W.Frag} {g : Gh} {H : Hp} {h : Hv} {v : Val} {x : V} {t : Ty} (R : HR K g H h) (r : VR K g H v x) (e : tyOf h v = some t) : TyX K H x (.type t.name) := by
  cases v with
  | non => simp only [tyOf, Option.some.injEq] at e; subst e; simp only [VR] at r; subst r; exact .base .non
  | bl b => simp only [tyOf, Option.some.injEq] at e; subst e; simp only [VR] at r; subst r; exact .base (.bl b)
  | int b => simp only [tyOf, Option.some.injEq] at e; subst e; simp only [VR] at r; subst r; exact .base (.int b)
  | str b => simp only [tyOf, Option.some.injEq] at e; subst e; simp only [VR] at r; subst r; exact .base (.str _)
  | tup l =>
    simp only [tyOf, Option.some.injEq] at e
    subst e
    simp only [VR] at r
    obtain ⟨a, xs, rfl, s, _⟩ := r
    rcases s with (s | ⟨o, s⟩) | ⟨o, its, n, hk, hc, _⟩
    · exact .base (.tup s)
    · exact .fTuple s
    · exact .kTuple hk hc
  | lst l =>
    simp only [tyOf, Option.some.injEq] at e
    subst e
    simp only [VR] at r
    obtain ⟨a, xs, rfl, _, s, _⟩ := r
    exact .base (.lst s)
  | fz l =>
    simp only [tyOf, Option.some.injEq] at e
    subst e
    simp only [VR] at r
    obtain ⟨a, xs, rfl, s, _⟩ := r
    rcases s with ⟨o, s⟩ | ⟨o, its, n, hk, hc, _⟩
    · exact .base (.frz s)
    · exact .kList hk hc
  | ref i =>
    simp only [VR] at r
    obtain ⟨a, rfl, hm⟩ := r
    simp only [tyOf] at e
    split at e
    · rename_i l hl
      cases e
      obtain ⟨xs, e1, _⟩ := ref_at R hl hm
      exact .base (.lst e1)
    · rename_i l hl
      cases e
      obtain ⟨xs, e1, _⟩ := ref_at R hl hm
      exact .base (.dK e1)
    · cases e
def dIsi (t : Ty) (d : Den) : Den := fun l h => (d l h).bind fun v h1 => match tyOf h1 v with
  | some a => .ok (.bl (isiB a t)) h1
  | none => .fail
section
variable {X : Cx} {W : WX}
/-- isinstance(e, T), T a built-in type by its name -/
theorem ge_isi (t : Ty) {e : Expr} {d : Den} {x y : Str} {p q pos : Pos} (he : GE X W e d) (hm : X.mg x = none) (hmt : X.mg y = none) (ht : t ≠ .non := by decide) (hg : Gl X x := by rfl) (hgt : Gl X y := by rfl) (hv : bootBuiltins x = some (.builtin "isinstance") := by decide +kernel) (hvt : bootBuiltins y = some (.type t.name) := by decide +kernel)
    (hn : x ≠ "__name__" := by decide +kernel) (hdb : (x == ("__debug__" : Str)) = false := by decide +kernel) (hnt : y ≠ "__name__" := by decide +kernel) (hdbt : (y == ("__debug__" : Str)) = false := by decide +kernel)
    (hs : starEach [e, .Name y q] X.env = (false, eval e X.env) :: starEach [.Name y q] X.env := by rfl) (hs2 : starEach [.Name y q] X.env = (false, eval (.Name y q) X.env) :: starEach [] X.env := by rfl) (hpl : (backTo pos (starEach [.Name y q] X.env)).any (·.1) = false := by rfl) :
    GE X W (.Call (.Name x p) [e, .Name y q] [] pos) (dIsi t d) := by
  have hy : PE X (.Name y q) (tC (.ty t.name)) := pe_bltn hgt hmt hvt rfl hnt hdbt
  refine PE.imp (pe_callB call_isi hg hm hv (pa_cons he (pa_cons hy pa_nil hs2) hs) hn hdb hs hpl) fun σ H Q ⟨g, l, h, S, R, A⟩ => ?_
  refine tG_of S R A fun v h1 g1 H1 x E S1 R1 r1 A1 => ?_
  show rIsi X.K [x, .ty t.name] H1 Q
  cases et : tyOf h1 v with
  | none => rw [et] at A1; exact A1.elim
  | some a =>
    rw [et] at A1
    exact ⟨x, _, _, _, isiB a t, rfl, .ty _, tyOf_ok R1 r1 et, kit_ty (kitB_ok a t ht), A1 g1 H1 _ Ext.refl R1 (by simp only [VR])⟩

/-! ### slices -/
def cut {α : Type} (l : List α) (lo hi : Option Int) : List α := (l.drop (HT.sIx l.length 0 lo)).take (HT.sIx l.length l.length hi - HT.sIx l.length 0 lo)
abbrev DO := Loc → Hv → Res (Option Int)
def oNone : DO := fun _ h => .ok none h
def oSome (d : Den) : DO := fun l h => (d l h).bind fun v h1 => match v with
  | .int i => .ok (some i) h1
  | _ => .fail
abbrev orl : Gh → Hp → Option Int → Option Int → Prop := fun _ _ a b => a = b
def GO (X : Cx) (W : WX) (e : Option Expr) (d : DO) : Prop := PO X e (tG X.K W orl d)
theorem PO.imp {e : Option Expr} {t t' : TO} (p : PO X e t) (h : ∀ σ H Q, t' σ H Q → t σ H Q) : PO X e t' := ⟨fun pins s σ H Q I q => p.run pins s σ H Q I (h σ H Q q)⟩
theorem go_none : GO X W none oNone := PO.imp po_none fun σ H Q ⟨g, l, h, S, R, A⟩ => A g H none Ext.refl R rfl
theorem go_some {e : Expr} {d : Den} (he : GE X W e d) : GO X W (some e) (oSome d) := by
  refine PO.imp (po_some he) fun σ H Q ⟨g, l, h, S, R, A⟩ => ?_
  refine tG_of S R A fun v h1 g1 H1 x E S1 R1 r1 A1 => ?_
  cases v with
  | int i =>
    simp only [VR] at r1
    exact ⟨i, r1, A1 g1 H1 _ Ext.refl R1 rfl⟩
  | _ => exact A1.elim
def vCut (v : Val) (lo hi : Option Int) (h : Hv) : Res Val := match v with
  | .tup l => .ok (.tup (cut l lo hi)) h
  | .str s => if s.length ≤ lineN then .ok (.str (cut s lo hi)) h else .fail
  | v => match lstOf h v with
    | some l => .ok (.lst (cut l lo hi)) h
    | none => .fail
def dCut (d : Den) (lo hi : DO) : Den := fun l h => (d l h).bind fun v h1 => (lo l h1).bind fun a h2 => (hi l h2).bind fun b h3 => vCut v a b h3
theorem VRs.cut' {K : PySem.W.Frag} {g : Gh} {H : Hp} {l : List Val} {xs : List V} (r : VRs K g H l xs) (lo hi : Option Int) : VRs K g H (GH.cut l lo hi) (cutV xs lo hi) := by
  unfold GH.cut cutV
  rw [← r.length]
  exact (r.drop _).take _
theorem cut_all {α : Type} (l : List α) {lo hi : Option Int} (h : HT.sIx l.length 0 lo = 0 ∧ HT.sIx l.length l.length hi = l.length) : cut l lo hi = l := by
  unfold cut
  rw [h.1, h.2]
  simp
end
end GH
set_option Elab.async false
set_option linter.all false
set_option maxRecDepth 100000
set_option maxHeartbeats 1000000
set_option autoImplicit false
/-! Slices, built-in functions of one argument, methods of lists and dicts, stores. -/
namespace GH
open PySem PySem.Spec PyProof.Rows L2

section
variable {X : Cx} {W : WX}
theorem cutS_eq (s : List Nat) (lo hi : Option Int) : cutS (sOf s) lo hi = sOf (cut s lo hi) := by
  unfold cutS cut sOf
  simp [Str.length]
theorem ge_cut {e : Expr} {d : Den} {lo hi : Option Expr} {dl dh : DO} {pos p2 : Pos} (he : GE X W e d) (hl : GO X W lo dl) (hh : GO X W hi dh) : GE X W (.Subscript e (.Slice lo hi none p2) pos) (dCut d dl dh) := by
  refine PE.imp (pe_slice (sl_list.or (sl_tupA.or sl_str)) he hl hh) fun σ H Q ⟨g, l, h, S, R, A⟩ => ?_
  refine tG_of S R A fun v h1 g1 H1 x E S1 R1 r1 A1 => ?_
  refine tG_of S1 R1 A1 fun a h2 g2 H2 a' E2 S2 R2 e2 A2 => ?_
  refine tG_of S2 R2 A2 fun b h3 g3 H3 b' E3 S3 R3 e3 A3 => ?_
  obtain rfl : a = a' := e2
  obtain rfl : b = b' := e3
  have r := (r1.ext R1 E2).ext R2 E3
  unfold vCut at A3
  split at A3
  · rename_i k
    simp only [VR] at r
    obtain ⟨p, xs, rfl, s, rs⟩ := r
    refine .inr (.inl ⟨p, xs, rfl, s, fun hw => ?_, fun _ q nq => ?_⟩)
    · refine A3 g3 H3 _ Ext.refl R3 ?_
      rw [cut_all k (by rw [rs.length]; exact hw)]
      simp only [VR]
      exact ⟨p, xs, rfl, s, rs⟩
    · obtain ⟨E4, R4⟩ := R3.grow (o := .tup (cutV xs a b)) nq
      refine A3 g3 _ (.ref q) E4 R4 ?_
      simp only [VR]
      exact ⟨q, _, rfl, SqT.of upd_same, (rs.cut' a b).ext R3 E4⟩
  · rename_i k
    split at A3
    · rename_i hl
      simp only [VR] at r
      subst r
      refine .inr (.inr ⟨_, rfl, by rw [sOf_len]; exact line_ok hl, ?_⟩)
      rw [cutS_eq]
      exact A3 g3 H3 _ Ext.refl R3 (by simp only [VR])
    · exact A3.elim
  · split at A3
    · rename_i k hk
      obtain ⟨p, xs, rfl, s, rs⟩ := lstOf_ok R3 r hk
      refine .inl ⟨p, xs, rfl, SqL.of s, fun q nq => ?_⟩
      obtain ⟨E4, R4⟩ := R3.grow (o := .lst (cutV xs a b)) nq
      refine A3 g3 _ (.ref q) E4 R4 ?_
      simp only [VR]
      exact ⟨q, _, rfl, R3.fresh nq, upd_same, (rs.cut' a b).ext R3 E4⟩
    · exact A3.elim
/-- a list reversed: xs[::-1] -/
def vRev (v : Val) (h : Hv) : Res Val := match lstOf h v with
  | some l => .ok (.lst l.reverse) h
  | none => .fail
def dFn (f : Val → Hv → Res Val) (d : Den) : Den := fun l h => (d l h).bind f
theorem ge_rev {e : Expr} {d : Den} {k : Nat} {p1 p2 p3 pos : Pos} (he : GE X W e d) : GE X W (.Subscript e (.Slice none none (some (.UnaryOp .USub (.Constant (.int 1) k p1) p2)) p3) pos) (dFn vRev d) := by
  refine PE.imp (pe_revL he) fun σ H Q ⟨g, l, h, S, R, A⟩ => ?_
  refine tG_of S R A fun v h1 g1 H1 x E S1 R1 r1 A1 => ?_
  unfold vRev at A1
  split at A1
  · rename_i k hk
    obtain ⟨p, xs, rfl, s, rs⟩ := lstOf_ok R1 r1 hk
    refine ⟨p, xs, rfl, SqL.of s, fun q nq => ?_⟩
    obtain ⟨E4, R4⟩ := R1.grow (o := .lst xs.reverse) nq
    refine A1 g1 _ (.ref q) E4 R4 ?_
    simp only [VR]
    exact ⟨q, _, rfl, R1.fresh nq, upd_same, rs.reverse.ext R1 E4⟩
  · exact A1.elim

/-! ### f(e) -/
def C1 (X : Cx) (f : Value) (d : Val → Hv → Res Val) : Prop := ∃ r, CallR X f r ∧ ∀ (W : WX) (g : Gh) (H : Hp) (h : Hv) (σ : L2.St) (v : Val) (x : V) (Q : VK), HR X.K g H h → VR X.K g H v x → After X.K W (vr X.K) σ g H Q (d v h) → r [x] H Q
theorem ge_b1 {id : String} {f : Val → Hv → Res Val} {e : Expr} {d : Den} {x : Str} {p pos : Pos} (hf : C1 X (.builtin id) f) (he : GE X W e d) (hm : X.mg x = none) (hg : Gl X x := by rfl) (hv : bootBuiltins x = some (.builtin id) := by decide +kernel) (hn : x ≠ "__name__" := by decide +kernel) (hdb : (x == ("__debug__" : Str)) = false := by decide +kernel)
    (hst : starEach [e] X.env = (false, eval e X.env) :: starEach [] X.env := by rfl) (hpl : (backTo pos (starEach [] X.env)).any (·.1) = false := by rfl) : GE X W (.Call (.Name x p) [e] [] pos) (dFn f d) := by
  obtain ⟨r, hc, hr⟩ := hf
  refine PE.imp (pe_callB hc hg hm hv (pa_cons he pa_nil hst) hn hdb hst hpl) fun σ H Q ⟨g, l, h, S, R, A⟩ => ?_
  exact tG_of S R A fun v h1 g1 H1 x E S1 R1 r1 A1 => hr W g1 H1 h1 σ v x Q R1 r1 A1
theorem ge_t1 {T : String} {f : Val → Hv → Res Val} {e : Expr} {d : Den} {x : Str} {p pos : Pos} (hf : C1 X (.type T) f) (he : GE X W e d) (hm : X.mg x = none) (hg : Gl X x := by rfl) (hv : bootBuiltins x = some (.type T) := by decide +kernel) (hn : x ≠ "__name__" := by decide +kernel) (hdb : (x == ("__debug__" : Str)) = false := by decide +kernel)
    (hst : starEach [e] X.env = (false, eval e X.env) :: starEach [] X.env := by rfl) (hpl : (backTo pos (starEach [] X.env)).any (·.1) = false := by rfl) : GE X W (.Call (.Name x p) [e] [] pos) (dFn f d) := by
  obtain ⟨r, hc, hr⟩ := hf
  refine PE.imp (pe_callTy hc hg hm hv (pa_cons he pa_nil hst) hn hdb hst hpl) fun σ H Q ⟨g, l, h, S, R, A⟩ => ?_
  exact tG_of S R A fun v h1 g1 H1 x E S1 R1 r1 A1 => hr W g1 H1 h1 σ v x Q R1 r1 A1
def vAbs (v : Val) (h : Hv) : Res Val := match v with
  | .int i => .ok (.int (if i < 0 then -i else i)) h
  | _ => .fail
theorem c1_abs : C1 X (.builtin "abs") vAbs := ⟨_, call_abs, fun W g H h σ v x Q R r A => by
  unfold vAbs at A
  split at A
  · simp only [VR] at r
    subst r
    exact ⟨_, rfl, A g H _ Ext.refl R (by simp only [VR])⟩
  · exact A.elim⟩
def vInt (v : Val) (h : Hv) : Res Val := match v with
  | .int i => .ok (.int i) h
  | .bl b => .ok (.int (if b then 1 else 0)) h
  | _ => .fail
theorem c1_int : C1 X (.type "int") vInt := ⟨_, call_int1, fun W g H h σ v x Q R r A => by
  unfold vInt at A
  split at A
  · simp only [VR] at r
    subst r
    exact .inl ⟨_, rfl, A g H _ Ext.refl R (by simp only [VR])⟩
  · simp only [VR] at r
    subst r
    exact .inr ⟨_, rfl, A g H _ Ext.refl R (by simp only [VR])⟩
  · exact A.elim⟩
def intsOf : List Val → Option (List Int)
  | [] => some []
  | .int i :: l => (intsOf l).map (i :: ·)
  | _ :: _ => none
def blsOf : List Val → Option (List Bool)
  | [] => some []
  | .bl i :: l => (blsOf l).map (i :: ·)
  | _ :: _ => none
theorem intsOf_ok {K : PySem.W.Frag} {g : Gh} {H : Hp} : ∀ {l : List Val} {ns : List Int} {xs : List V}, intsOf l = some ns → VRs K g H l xs → xs = ns.map V.int
  | [], ns, xs, e, r => by simp only [intsOf, Option.some.injEq] at e; subst e; simp only [VRs] at r; exact r
  | .int i :: l, ns, xs, e, r => by
    simp only [intsOf, Option.map_eq_some_iff] at e
    obtain ⟨ms, e, rfl⟩ := e
    simp only [VRs, VR] at r
    obtain ⟨x, xs', rfl, rfl, r⟩ := r
    rw [intsOf_ok e r]; rfl
theorem blsOf_ok {K : PySem.W.Frag} {g : Gh} {H : Hp} : ∀ {l : List Val} {ns : List Bool} {xs : List V}, blsOf l = some ns → VRs K g H l xs → xs = ns.map V.bl
  | [], ns, xs, e, r => by simp only [blsOf, Option.some.injEq] at e; subst e; simp only [VRs] at r; exact r
  | .bl i :: l, ns, xs, e, r => by
    simp only [blsOf, Option.map_eq_some_iff] at e
    obtain ⟨ms, e, rfl⟩ := e
    simp only [VRs, VR] at r
    obtain ⟨x, xs', rfl, rfl, r⟩ := r
    rw [blsOf_ok e r]; rfl
def vSum (v : Val) (h : Hv) : Res Val := match lstOf h v with
  | some l => match intsOf l with
    | some ns => .ok (.int ns.sum) h
    | none => .fail
  | none => .fail
theorem c1_sum (hc : X.calm = true) : C1 X (.builtin "sum") vSum := ⟨_, cr_sum hc, fun W g H h σ v x Q R r A => by
  unfold vSum at A
  split at A
  · rename_i l hl
    split at A
    · rename_i ns hn
      obtain ⟨a, xs, rfl, s, rs⟩ := lstOf_ok R r hl
      have e := intsOf_ok hn rs
      subst e
      exact ⟨a, ns, rfl, SqL.of s, A g H _ Ext.refl R (by simp only [VR])⟩
    · exact A.elim
  · exact A.elim⟩
def vAll (v : Val) (h : Hv) : Res Val := match lstOf h v with
  | some l => match blsOf l with
    | some ns => .ok (.bl (ns.all id)) h
    | none => .fail
  | none => .fail
def vAny (v : Val) (h : Hv) : Res Val := match lstOf h v with
  | some l => match blsOf l with
    | some ns => .ok (.bl (ns.any id)) h
    | none => .fail
  | none => .fail
theorem c1_all (hc : X.calm = true) : C1 X (.builtin "all") vAll := ⟨_, cr_all hc, fun W g H h σ v x Q R r A => by
  unfold vAll at A
  split at A
  · rename_i l hl
    split at A
    · rename_i ns hn
      obtain ⟨a, xs, rfl, s, rs⟩ := lstOf_ok R r hl
      have e := blsOf_ok hn rs
      subst e
      exact ⟨a, ns, rfl, SqL.of s, A g H _ Ext.refl R (by simp only [VR])⟩
    · exact A.elim
  · exact A.elim⟩
theorem c1_any (hc : X.calm = true) : C1 X (.builtin "any") vAny := ⟨_, cr_any hc, fun W g H h σ v x Q R r A => by
  unfold vAny at A
  split at A
  · rename_i l hl
    split at A
    · rename_i ns hn
      obtain ⟨a, xs, rfl, s, rs⟩ := lstOf_ok R r hl
      have e := blsOf_ok hn rs
      subst e
      exact ⟨a, ns, rfl, SqL.of s, A g H _ Ext.refl R (by simp only [VR])⟩
    · exact A.elim
  · exact A.elim⟩
def vTuple (v : Val) (h : Hv) : Res Val := match seqOf h v with
  | some l => .ok (.tup l) h
  | none => .fail
theorem c1_tuple : C1 X (.type "tuple") vTuple := ⟨_, call_tuple_of, fun W g H h σ v x Q R r A => by
  unfold vTuple at A
  split at A
  · rename_i l hl
    obtain ⟨a, xs, rfl, s, rs⟩ := seqOf_ok R r hl
    rcases s with s | s
    · refine ⟨a, xs, rfl, .inl ⟨s, fun q nq => ?_⟩⟩
      obtain ⟨E4, R4⟩ := R.grow (o := .tup xs) nq
      refine A g _ (.ref q) E4 R4 ?_
      simp only [VR]
      exact ⟨q, _, rfl, SqT.of upd_same, rs.ext R E4⟩
    · refine ⟨a, xs, rfl, .inr ⟨s, A g H _ Ext.refl R ?_⟩⟩
      simp only [VR]
      exact ⟨a, xs, rfl, s, rs⟩
  · exact A.elim⟩
def vList (v : Val) (h : Hv) : Res Val := match seqOf h v with
  | some l => .ok (.lst l) h
  | none => .fail
theorem c1_list : C1 X (.type "list") vList := ⟨_, call_list_of, fun W g H h σ v x Q R r A => by
  unfold vList at A
  split at A
  · rename_i l hl
    obtain ⟨a, xs, rfl, s, rs⟩ := seqOf_ok R r hl
    refine ⟨a, xs, rfl, s, fun q nq => ?_⟩
    obtain ⟨E4, R4⟩ := R.grow (o := .lst xs) nq
    refine A g _ (.ref q) E4 R4 ?_
    simp only [VR]
    exact ⟨q, _, rfl, R.fresh nq, upd_same, rs.ext R E4⟩
  · exact A.elim⟩
/-- .. that is written later on -/
def vListM (v : Val) (h : Hv) : Res Val := match seqOf h v with
  | some l => .ok (.ref h.length) (h ++ [.lst l])
  | none => .fail
theorem push_ok {W : WX} {σ : L2.St} {g : Gh} {H : Hp} {h : Hv} {Q : VK} {ob : Ob} {o : HO} (R : HR X.K g H h) (A : After X.K W (vr X.K) σ g H Q (.ok (.ref h.length) (h ++ [ob]))) {q : Addr} (nq : H q = none)
    (ok : ∀ E : Ext g H ⟨g.m ++ [q], g.r⟩ (upd H q o), OR X.K ⟨g.m ++ [q], g.r⟩ (upd H q o) q ob) : Q (.ref q) (upd H q o) := by
  have E : Ext g H ⟨g.m ++ [q], g.r⟩ (upd H q o) := ⟨⟨[q], rfl, fun b hb => by rw [List.mem_singleton.mp hb]; exact nq⟩, rfl, fun b u e hb => by rw [upd_ne (ne_of_none e nq)]; exact e, fun b u e => ⟨u, by rw [upd_ne (ne_of_none e nq)]; exact e⟩⟩
  obtain ⟨_, R1⟩ := R.push (o := o) (ob := ob) nq (ok E)
  refine A _ _ (.ref q) E R1 ?_
  simp only [VR]
  refine ⟨q, rfl, ?_⟩
  show (g.m ++ [q])[h.length]? = some q
  rw [← R.len]
  simp
theorem c1_listM : C1 X (.type "list") vListM := ⟨_, call_list_of, fun W g H h σ v x Q R r A => by
  unfold vListM at A
  split at A
  · rename_i l hl
    obtain ⟨a, xs, rfl, s, rs⟩ := seqOf_ok R r hl
    exact ⟨a, xs, rfl, s, fun q nq => push_ok R A nq fun E => ⟨xs, upd_same, rs.ext R E⟩⟩
  · exact A.elim⟩
/-- dict(d): a copy -/
def vDict (v : Val) (h : Hv) : Res Val := match dicOf h v with
  | some l => .ok (.ref h.length) (h ++ [.dic l])
  | none => .fail
theorem c1_dict : C1 X (.type "dict") vDict := ⟨_, call_dictD, fun W g H h σ v x Q R r A => by
  unfold vDict at A
  split at A
  · rename_i l hl
    obtain ⟨i, a, ks, rfl, rfl, hm, hi, ha, d⟩ := dicOf_ok R r hl
    exact ⟨a, ks, rfl, .inl ha, fun q nq => push_ok R A nq fun E => ⟨ks, upd_same, d.1, d.2.ext R E⟩⟩
  · exact A.elim⟩

/-! ### methods -/
def isLst (h : Hv) (v : Val) : Bool := (lstOf h v).isSome
/-- x.append(e): the receiver stands first -/
def vAppend (x v : Val) (h : Hv) : Res Val := match x with
  | .ref i => match h[i]? with
    | some (.lst l) => if l.length < lineN then .ok .non (h.set i (.lst (l ++ [v]))) else .fail
    | _ => .fail
  | _ => .fail
def dMeth1 (ok : Hv → Val → Bool) (f : Val → Val → Hv → Res Val) (o e : Den) : Den := fun l h => (o l h).bind fun x h1 => if ok h1 x = true then (e l h1).bind fun v h2 => f x v h2 else .fail
theorem lst_ty {K : PySem.W.Frag} {g : Gh} {H : Hp} {h : Hv} {v : Val} {x : V} (R : HR K g H h) (r : VR K g H v x) (e : isLst h v = true) : tyV K "list" x H := by
  unfold isLst at e
  obtain ⟨l, hl⟩ := Option.isSome_iff_exists.mp e
  obtain ⟨a, xs, rfl, s, _⟩ := lstOf_ok R r hl
  exact .inl ⟨rfl, xs, SqL.of s⟩
def M1R (X : Cx) (T id : String) (ok : Hv → Val → Bool) (f : Val → Val → Hv → Res Val) : Prop := (∀ (g : Gh) (H : Hp) (h : Hv) (v : Val) (x : V), HR X.K g H h → VR X.K g H v x → ok h v = true → tyV X.K T x H) ∧
  ∃ r, MtR X id r ∧ ∀ (W : WX) (g : Gh) (H : Hp) (h : Hv) (σ : L2.St) (v u : Val) (x y : V) (Q : VK), HR X.K g H h → VR X.K g H v x → VR X.K g H u y → After X.K W (vr X.K) σ g H Q (f v u h) → r x [y] H Q
theorem ge_meth1 {T id : String} {name : Str} {ok : Hv → Val → Bool} {f : Val → Val → Hv → Res Val} {o e : Expr} {dx de : Den} {apos cpos : Pos} (hf : M1R X T id ok f) (pa : PlainAttrs T) (slot : Slot T name id) (hty : typeOf (.builtin id) = pure (.type "method_descriptor")) (ho : GE X W o dx) (he : GE X W e de)
    (hbase : attributeBase o name X.env (eval o X.env) = eval o X.env := by rfl)
    (hfew : ((backTo cpos (starEach [e] X.env)).all (fun x => !x.1) && (backToKw cpos (keywordEach [] X.env)).all (fun x => x.1.isSome)
      && decide (([e] : List Expr).length + ([] : List Keyword).length + (if ([] : List Keyword).isEmpty then 0 else 1) < 30)) = true := by rfl)
    (hline : (apos.endLine == cpos.line) = true := by rfl) (hs : starEach [e] X.env = (false, eval e X.env) :: starEach [] X.env := by rfl) (hplain : (backTo cpos (starEach [] X.env)).any (·.1) = false := by rfl) :
    GE X W (.Call (.Attribute o name apos) [e] [] cpos) (dMeth1 ok f dx de) := by
  obtain ⟨hty2, r, hc, hr⟩ := hf
  refine PE.imp (pe_bm pa slot hty hc ho (pa_cons he pa_nil hs) hbase hfew hline hs hplain) fun σ H Q ⟨g, l, h, S, R, A⟩ => ?_
  refine tG_of S R A fun v h1 g1 H1 x E S1 R1 r1 A1 => ?_
  split at A1
  · rename_i ok1
    refine ⟨hty2 g1 H1 h1 v x R1 r1 ok1, ?_⟩
    exact tG_of S1 R1 A1 fun u h2 g2 H2 y E2 S2 R2 r2 A2 => hr W g2 H2 h2 σ v u x y Q R2 (r1.ext R1 E2) r2 A2
  · exact A1.elim
theorem m1_append : M1R X "list" "list.append" isLst vAppend := ⟨fun g H h v x R r e => lst_ty R r e, _, mt_append, fun W g H h σ v u x y Q R rv ru A => by
  unfold vAppend at A
  split at A
  · rename_i i
    split at A
    · rename_i l hl
      split at A
      · rename_i hz
        simp only [VR] at rv
        obtain ⟨a, rfl, hm⟩ := rv
        obtain ⟨xs, e1, rs⟩ := ref_at R hl hm
        refine ⟨a, xs, y, rfl, rfl, e1, by rw [← rs.length]; exact line_lt hz, ?_⟩
        obtain ⟨E, R1⟩ := R.write (ob := .lst (l ++ [u])) (o' := .lst (xs ++ [y])) hm fun E => ⟨_, upd_same, (rs.ext R E).append (.one (ru.ext R E))⟩
        exact A g _ .non E R1 (by simp only [VR])
      · exact A.elim
    · exact A.elim
  · exact A.elim⟩
theorem ge_append {o e : Expr} {dx de : Den} {apos cpos : Pos} (ho : GE X W o dx) (he : GE X W e de) (hbase : attributeBase o "append" X.env (eval o X.env) = eval o X.env := by rfl)
    (hfew : ((backTo cpos (starEach [e] X.env)).all (fun x => !x.1) && (backToKw cpos (keywordEach [] X.env)).all (fun x => x.1.isSome)
      && decide (([e] : List Expr).length + ([] : List Keyword).length + (if ([] : List Keyword).isEmpty then 0 else 1) < 30)) = true := by rfl)
    (hline : (apos.endLine == cpos.line) = true := by rfl) (hs : starEach [e] X.env = (false, eval e X.env) :: starEach [] X.env := by rfl) (hplain : (backTo cpos (starEach [] X.env)).any (·.1) = false := by rfl) :
    GE X W (.Call (.Attribute o "append" apos) [e] [] cpos) (dMeth1 isLst vAppend dx de) := ge_meth1 m1_append PySem.F.plainAttrs_list PySem.F.slot_list_append PySem.F.type_list_append ho he hbase hfew hline hs hplain
/-- x.extend(e) -/
def vExtend (x v : Val) (h : Hv) : Res Val := match x with
  | .ref i => match h[i]?, seqOf h v with
    | some (.lst l), some k => if l.length + k.length ≤ lineN then .ok .non (h.set i (.lst (l ++ k))) else .fail
    | _, _ => .fail
  | _ => .fail
def rExtT (K : PySem.W.Frag) : V → List V → Hp → VK → Prop := fun x vs H Q => ∃ l b xs zs, x = .ref l ∧ vs = [.ref b] ∧ H l = some (.lst xs) ∧ SqT K H b zs ∧ xs.length + zs.length ≤ sizeLine ∧ Q .non (upd H l (.lst (xs ++ zs)))
theorem m1_extend_l : M1R X "list" "list.extend" isLst (fun x v h => if (lstOf h v).isSome then vExtend x v h else .fail) := ⟨fun g H h v x R r e => lst_ty R r e, _, mt_extend, fun W g H h σ v u x y Q R rv ru A => by
  dsimp only at A
  split at A
  · rename_i hs
    obtain ⟨k, hk⟩ := Option.isSome_iff_exists.mp hs
    have hk2 : seqOf h u = some k := by cases u <;> first | exact hk | (simp [lstOf] at hk)
    unfold vExtend at A
    split at A
    · rename_i i
      split at A
      · rename_i l k' hl hk'
        rw [hk2] at hk'
        cases hk'
        split at A
        · rename_i hz
          simp only [VR] at rv
          obtain ⟨a, rfl, hm⟩ := rv
          obtain ⟨xs, e1, rs⟩ := ref_at R hl hm
          obtain ⟨b, zs, rfl, s2, rz⟩ := lstOf_ok R ru hk
          refine ⟨a, b, xs, zs, rfl, rfl, e1, s2, by rw [← rs.length, ← rz.length]; exact line_ok hz, ?_⟩
          obtain ⟨E, R1⟩ := R.write (ob := .lst (l ++ k)) (o' := .lst (xs ++ zs)) hm fun E => ⟨_, upd_same, (rs.append rz).ext R E⟩
          exact A g _ .non E R1 (by simp only [VR])
        · exact A.elim
      · exact A.elim
    · exact A.elim
  · exact A.elim⟩
/-- x.pop() -/
def vPop (x : Val) (h : Hv) : Res Val := match x with
  | .ref i => match h[i]? with
    | some (.lst l) => match l.getLast? with
      | some v => .ok v (h.set i (.lst l.dropLast))
      | none => .fail
    | _ => .fail
  | _ => .fail
def dMeth0 (ok : Hv → Val → Bool) (f : Val → Hv → Res Val) (o : Den) : Den := fun l h => (o l h).bind fun x h1 => if ok h1 x = true then f x h1 else .fail
theorem ge_meth0 {T id : String} {name : Str} {ok : Hv → Val → Bool} {f : Val → Hv → Res Val} {o : Expr} {dx : Den} {apos cpos : Pos} {r : V → List V → Hp → VK → Prop} (pa : PlainAttrs T) (slot : Slot T name id) (hty : typeOf (.builtin id) = pure (.type "method_descriptor")) (hc : MtR X id r)
    (hty2 : ∀ (g : Gh) (H : Hp) (h : Hv) (v : Val) (x : V), HR X.K g H h → VR X.K g H v x → ok h v = true → tyV X.K T x H)
    (hr : ∀ (W : WX) (g : Gh) (H : Hp) (h : Hv) (σ : L2.St) (v : Val) (x : V) (Q : VK), HR X.K g H h → VR X.K g H v x → After X.K W (vr X.K) σ g H Q (f v h) → r x [] H Q) (ho : GE X W o dx)
    (hbase : attributeBase o name X.env (eval o X.env) = eval o X.env := by rfl) (hline : (apos.endLine == cpos.line) = true := by rfl) : GE X W (.Call (.Attribute o name apos) [] [] cpos) (dMeth0 ok f dx) := by
  refine PE.imp (pe_bm0 pa slot hty hc ho hbase hline) fun σ H Q ⟨g, l, h, S, R, A⟩ => ?_
  refine tG_of S R A fun v h1 g1 H1 x E S1 R1 r1 A1 => ?_
  split at A1
  · rename_i ok1
    exact ⟨hty2 g1 H1 h1 v x R1 r1 ok1, hr W g1 H1 h1 σ v x Q R1 r1 A1⟩
  · exact A1.elim
theorem VRs.dropLast {K : PySem.W.Frag} {g : Gh} {H : Hp} {l : List Val} {xs : List V} (r : VRs K g H l xs) : VRs K g H l.dropLast xs.dropLast := by
  rw [List.dropLast_eq_take, List.dropLast_eq_take, r.length]
  exact r.take _
theorem ge_pop {o : Expr} {dx : Den} {apos cpos : Pos} (ho : GE X W o dx) (hbase : attributeBase o "pop" X.env (eval o X.env) = eval o X.env := by rfl) (hline : (apos.endLine == cpos.line) = true := by rfl) : GE X W (.Call (.Attribute o "pop" apos) [] [] cpos) (dMeth0 isLst vPop dx) :=
  ge_meth0 PySem.F.plainAttrs_list PySem.F.slot_list_pop PySem.F.type_list_pop mt_pop (fun g H h v x R r e => lst_ty R r e) (fun W g H h σ v x Q R rv A => by
    unfold vPop at A
    split at A
    · rename_i i
      split at A
      · rename_i l hl
        split at A
        · rename_i w hw
          simp only [VR] at rv
          obtain ⟨a, rfl, hm⟩ := rv
          obtain ⟨xs, e1, rs⟩ := ref_at R hl hm
          rw [List.getLast?_eq_getElem?] at hw
          obtain ⟨y, hy, ry⟩ := rs.get hw
          refine ⟨a, xs, y, rfl, rfl, e1, by rw [← rs.length]; exact hy, ?_⟩
          obtain ⟨E, R1⟩ := R.write (ob := .lst l.dropLast) (o' := .lst xs.dropLast) hm fun E => ⟨_, upd_same, rs.dropLast.ext R E⟩
          exact A g _ y E R1 (ry.ext R E)
        · exact A.elim
      · exact A.elim
    · exact A.elim) ho hbase hline
/-- d.get(k), d.get(k, x) -/
def isDic (h : Hv) (v : Val) : Bool := (dicOf h v).isSome
def dGet1 (o e : Den) : Den := fun l h => (o l h).bind fun x h1 => if isDic h1 x = true then (e l h1).bind fun k h2 => (match dicOf h2 x, keyOf k with
  | some l, some _ => .ok ((dGet l k).getD .non) h2
  | _, _ => .fail) else .fail
def dGet2 (o e f : Den) : Den := fun l h => (o l h).bind fun x h1 => if isDic h1 x = true then (e l h1).bind fun k h2 => (f l h2).bind fun z h3 => (match dicOf h3 x, keyOf k with
  | some l, some _ => .ok ((dGet l k).getD z) h3
  | _, _ => .fail) else .fail
theorem dic_is {K : PySem.W.Frag} {g : Gh} {H : Hp} {h : Hv} {v : Val} {x : V} (R : HR K g H h) (r : VR K g H v x) (e : isDic h v = true) : ∃ a, x = .ref a ∧ IsD H a := by
  unfold isDic at e
  obtain ⟨l, hl⟩ := Option.isSome_iff_exists.mp e
  obtain ⟨i, a, ks, rfl, rfl, hm, hi, ha, d⟩ := dicOf_ok R r hl
  exact ⟨a, rfl, .inl ⟨ks, .inl ha⟩⟩
theorem dget_at {K : PySem.W.Frag} {g : Gh} {H : Hp} {h : Hv} {v k : Val} {x y : V} {l : List (Val × Val)} {kk : Key} (R : HR K g H h) (r : VR K g H v x) (rk : VR K g H k y) (hl : dicOf h v = some l) (hk : keyOf k = some kk) : ∃ a o, x = .ref a ∧ DGet H a y o ∧ ∀ z zx, VR K g H z zx → VR K g H ((dGet l k).getD z) (o.getD zx) := by
  obtain ⟨i, a, ks, rfl, rfl, hm, hi, ha, d⟩ := dicOf_ok R r hl
  obtain ⟨d1, d2⟩ := DR.get hk d
  refine ⟨a, valV ks kk, rfl, ?_, fun z zx rz => ?_⟩
  · rw [key_V rk hk]; exact DGet.k ha
  · cases e : dGet l k with
    | none => rw [d2 e]; exact rz
    | some w => obtain ⟨w', e1, r1⟩ := d1 w e; rw [e1]; exact r1
theorem ge_get1 {o e : Expr} {dx de : Den} {apos cpos : Pos} (hu : X.A.units + 1 < cLine) (ho : GE X W o dx) (he : GE X W e de) (m : M1 X o "get" apos e cpos := by exact ⟨rfl, rfl, rfl, rfl⟩) : GE X W (.Call (.Attribute o "get" apos) [e] [] cpos) (dGet1 dx de) := by
  refine PE.imp (pe_dget1 hu ho he m) fun σ H Q ⟨g, l, h, S, R, A⟩ => ?_
  refine tG_of S R A fun v h1 g1 H1 x E S1 R1 r1 A1 => ?_
  split at A1
  · rename_i ok1
    obtain ⟨a, rfl, hd⟩ := dic_is R1 r1 ok1
    refine ⟨a, rfl, hd, ?_⟩
    refine tG_of S1 R1 A1 fun u h2 g2 H2 y E2 S2 R2 r2 A2 => ?_
    split at A2
    · rename_i k kk hl hk
      obtain ⟨a', o, e1, dg, hz⟩ := dget_at R2 (r1.ext R1 E2) r2 hl hk
      cases e1
      exact ⟨o, dg, A2 g2 H2 _ Ext.refl R2 (hz .non .non (by simp only [VR]))⟩
    · exact A2.elim
  · exact A1.elim
theorem ge_get2 {o e f : Expr} {dx de df : Den} {apos cpos : Pos} (hu : X.A.units + 1 < cLine) (ho : GE X W o dx) (he : GE X W e de) (hf : GE X W f df) (m : M2 X o "get" apos e f cpos := by exact ⟨rfl, rfl, rfl, rfl⟩) : GE X W (.Call (.Attribute o "get" apos) [e, f] [] cpos) (dGet2 dx de df) := by
  refine PE.imp (pe_dget2 hu ho he hf m) fun σ H Q ⟨g, l, h, S, R, A⟩ => ?_
  refine tG_of S R A fun v h1 g1 H1 x E S1 R1 r1 A1 => ?_
  split at A1
  · rename_i ok1
    obtain ⟨a, rfl, hd⟩ := dic_is R1 r1 ok1
    refine ⟨a, rfl, hd, ?_⟩
    refine tG_of S1 R1 A1 fun u h2 g2 H2 y E2 S2 R2 r2 A2 => ?_
    refine tG_of S2 R2 A2 fun w h3 g3 H3 z E3 S3 R3 r3 A3 => ?_
    split at A3
    · rename_i k kk hl hk
      obtain ⟨a', o, e1, dg, hz⟩ := dget_at R3 ((r1.ext R1 E2).ext R2 E3) (r2.ext R2 E3) hl hk
      cases e1
      exact ⟨o, dg, A3 g3 H3 _ Ext.refl R3 (hz w z r3)⟩
    · exact A3.elim
  · exact A1.elim

/-! ### stores -/
/-- o[i] = v -/
def vSet (o i v : Val) (h : Hv) : Option Hv := match o with
  | .ref a => match h[a]? with
    | some (.dic l) => (match keyOf i with
      | some _ => if l.length < lineN then some (h.set a (.dic (dPut l i v))) else none
      | none => none)
    | some (.lst l) => (match i with
      | .int k => (match ixN l.length k with
        | some j => some (h.set a (.lst (l.set j v)))
        | none => none)
      | _ => none)
    | _ => none
  | _ => none
def rSetD : V → V → V → Hp → (Hp → Prop) → Prop := fun o i v H Q => ∃ a H', o = .ref a ∧ DPut H a i v H' ∧ Q H'
theorem set_dict (hu : X.A.units + 1 < cLine) : PSet X rSetD := by
  intro pins s σ H o i v ov iv u Q I ro ri rv h
  obtain ⟨a, H', rfl, d, q⟩ := h
  obtain rfl : ov = Value.ref a := ro
  exact d_setItem hu I d ri rv fun s' I' => ⟨H', I', q⟩
theorem PSet.or {t t' : TSet} (p : PSet X t) (p' : PSet X t') : PSet X fun o i v H Q => t o i v H Q ∨ t' o i v H Q := by
  intro pins s σ H o i v ov iv u Q I ro ri rv h
  rcases h with h | h
  · exact p pins s σ H o i v ov iv u Q I ro ri rv h
  · exact p' pins s σ H o i v ov iv u Q I ro ri rv h
theorem vSet_ok {g : Gh} {H : Hp} {h h' : Hv} {o i v : Val} {x y z : V} {Q : Hp → Prop} (R : HR X.K g H h) (ro : VR X.K g H o x) (ri : VR X.K g H i y) (rv : VR X.K g H v z) (e : vSet o i v h = some h') (q : ∀ H', Ext g H g H' → HR X.K g H' h' → Q H') : rSetL x y z H Q ∨ rSetD x y z H Q := by
  unfold vSet at e
  split at e
  · rename_i a
    simp only [VR] at ro
    obtain ⟨b, rfl, hm⟩ := ro
    split at e
    · rename_i l hl
      split at e
      · rename_i kk hk
        split at e
        · rename_i hz
          cases e
          obtain ⟨ks, e1, d⟩ := ref_at R hl hm
          obtain ⟨E, R1⟩ := R.write (ob := .dic (dPut l i v)) (o' := .dK (putK ks kk z)) hm fun E => ⟨_, upd_same, DR.put ⟨d.1, d.2.ext R E⟩ hk (rv.ext R E)⟩
          refine .inr ⟨b, _, rfl, ?_, q _ E R1⟩
          rw [key_V ri hk]
          exact DPut.k e1 (by rw [← d.length]; exact line_lt hz)
        · cases e
      · cases e
    · rename_i l hl
      split at e
      · rename_i k
        split at e
        · rename_i j hj
          cases e
          obtain ⟨xs, e1, rs⟩ := ref_at R hl hm
          obtain ⟨E, R1⟩ := R.write (ob := .lst (l.set j v)) (o' := .lst (xs.set j z)) hm fun E => ⟨_, upd_same, VRs.set j (rs.ext R E) (rv.ext R E)⟩
          simp only [VR] at ri
          subst ri
          exact .inl ⟨b, xs, k, j, rfl, rfl, e1, by rw [← rs.length]; exact hj, q _ E R1⟩
        · cases e
      · cases e
    · cases e
  · cases e
def Res.toT {α : Type} (r : Res α) (l : Loc) (k : α → Hv → TRes) : TRes := match r with
  | .ok v h => k v h
  | .exc e h => .exc e l h
  | .fail => .fail
@[simp] theorem Res.toT_ok {α : Type} (a : α) (h : Hv) (l : Loc) (k : α → Hv → TRes) : (Res.ok a h).toT l k = k a h := rfl
def gSub (o i : Den) : Tg := fun v l h => (o l h).toT l fun x h1 => (i l h1).toT l fun y h2 => match vSet x y v h2 with
  | some h3 => .ok l h3
  | none => .fail
theorem tG_T {α β : Type} {K : PySem.W.Frag} {W : WX} {σ : L2.St} {g : Gh} {H : Hp} {l : Loc} {h : Hv} {rel : Gh → Hp → α → β → Prop} {d : DenG α} {k : α → Hv → TRes} {Q : L2.St → Hp → Prop} {R : β → Hp → Prop} (S : SR K g H l σ) (hr : HR K g H h) (A : AfterT K W g H Q ((d l h).toT l k))
    (hk : ∀ v h1 g1 H1 x, Ext g H g1 H1 → SR K g1 H1 l σ → HR K g1 H1 h1 → rel g1 H1 v x → AfterT K W g1 H1 Q (k v h1) → R x H1) : tG K W rel d σ H R := by
  refine ⟨g, l, h, S, hr, ?_⟩
  cases e : d l h with
  | ok v h1 =>
    rw [e] at A
    intro g' H' x E R' r
    exact hk v h1 g' H' x E (S.ext hr E) R' r (AfterT.ext E A)
  | exc x h1 =>
    rw [e] at A
    intro g' H' c d' E R' r
    exact A g' H' σ c d' E R' (S.ext hr E) r
  | fail =>
    rw [e] at A
    exact A
theorem gg_sub {o i : Expr} {dx di : Den} {pos : Pos} (hu : X.A.units + 1 < cLine) (ho : GE X W o dx) (hi : GE X W i di)
    (ha : ∀ v, assign (.Subscript o i pos) X.env v = (do
      let ov ← holding [v] (eval o X.env)
      let iv ← holding [v, ov] (eval i X.env)
      standAt pos
      holding [v, ov, iv] (setItem ov iv v)
      release [v, ov, iv] []) := by intro _; rfl) : GG X W (.Subscript o i pos) (gSub dx di) := by
  refine PG.imp (pg_sub ho hi (PSet.or set_list (set_dict hu)) ha) fun y σ H Q ⟨g, l, h, v, S, R, r, A⟩ => ?_
  refine tG_T S R A fun x h1 g1 H1 x' E S1 R1 r1 A1 => ?_
  refine tG_T S1 R1 A1 fun z h2 g2 H2 z' E2 S2 R2 r2 A2 => ?_
  split at A2
  · rename_i h3 e
    exact vSet_ok R2 (r1.ext R1 E2) r2 ((r.ext R E).ext R1 E2) e fun H' E3 R3 => A2 g2 H' σ E3 R3 (S2.ext R2 E3)
  · exact A2.elim
/-- name op= e -/
def sAug (i : Nat) (f : Val → Val → Hv → Res Val) (d : Den) : Stm := fun l h => match l[i]? with
  | some (some x) => (d l h).to l fun y h1 => (f x y h1).to l fun z h2 => .nx (l.set i (some z)) h2
  | _ => .fail
theorem gs_aug (i : Nat) {f : Val → Val → Hv → Res Val} {x : Str} {e : Expr} {d : Den} {op : Operator} {pos' pos : Pos} (ho : OpG X (inplaceOp op) f) (he : GE X W e d) (hN : X.N.Nodup) (hi : X.N[i]? = some x := by rfl) (hx : L2.Loc X.env.scope x := by first | exact Or.inl rfl | exact Or.inr rfl)
    (hf : X.fn x = true ∨ X.env.scope.names.lookup x = some .local := by first | exact .inl rfl | exact .inr rfl) : GS X W (.AugAssign (.Name x pos') op e pos) (sAug i f d) := by
  obtain ⟨r, ho, hr⟩ := ho
  refine PS.imp (ps_aug hN hi hx he ho hf) fun D σ H ⟨g, l, h, S, R, A⟩ => ?_
  unfold sAug at A
  split at A
  · rename_i v ev
    obtain ⟨x, e1, rx⟩ := S.at_ i v ev
    refine ⟨x, e1, ?_⟩
    refine tG_to S R A fun y h1 g1 H1 y' E S1 R1 r1 A1 => ?_
    refine hr W g1 H1 h1 σ v y x y' _ R1 (rx.ext R E) r1 ?_
    cases ef : f v y h1 with
    | ok z h2 =>
      rw [ef] at A1
      exact fun g' H' z' E' R' rz => A1 g' H' _ E' R' ((S1.ext R1 E').set i rz)
    | exc x2 h2 =>
      rw [ef] at A1
      exact fun g' H' c d' E' R' re => A1 g' H' σ c d' E' R' (S1.ext R1 E') re
    | fail => rw [ef] at A1; exact A1
  · exact A.elim
def vIAdd (v u : Val) (h : Hv) : Res Val := match v, u with
  | .int i, .int j => .ok (.int (i + j)) h
  | .str a, .str b => if a.length + b.length ≤ lineN then .ok (.str (a ++ b)) h else .fail
  | _, _ => .fail
theorem og_iadd : OpG X (inplaceOp .Add) vIAdd := by
  refine ⟨_, iop_add.or iop_add_str, fun W g H h σ v u x y Q R rv ru A => ?_⟩
  unfold vIAdd at A
  split at A
  · simp only [VR] at rv ru
    subst rv ru
    exact .inl ⟨_, _, rfl, rfl, A g H _ Ext.refl R (by simp only [VR])⟩
  · split at A
    · rename_i hl
      simp only [VR] at rv ru
      subst rv ru
      exact .inr ⟨_, _, rfl, rfl, by rw [sOf_len, sOf_len]; exact line_ok hl, A g H _ Ext.refl R (by simp only [VR]; rw [sOf_append])⟩
    · exact A.elim
  · exact A.elim
theorem og_isub : OpG X (inplaceOp .Sub) vSub := og_int0 iop_sub fun W g H h σ v u Q R A => by
  unfold vSub at A
  split at A
  · exact ⟨_, _, rfl, rfl, A g H _ Ext.refl R (by simp only [VR])⟩
  · exact A.elim
end
end GH
set_option Elab.async false
set_option linter.all false
set_option maxRecDepth 100000
set_option maxHeartbeats 1000000
set_option autoImplicit false
/-! sorted of data, the first of them an empty tuple too; is of bools; dict displays; what stands at the top. -/
namespace PySem.W
open PySem PySem.Calls PySem.SeqAt PyProof.Rows
section
variable {prog : Program} {w : World} {A : Around} {E : Value → Shared → Prop} {s : Shared}
theorem gh_call_tuple_lt {Q : Value → Shared → Prop} {l b : Addr} {items items2 : Array Value} {e r : Nat → Bool} (hl : s.heap.IsTuple l items) (hb : s.heap.IsTuple b items2)
    (he : ∀ j (h1 : j < items.size) (h2 : j < items2.size), EqAt A.in1 s items[j] items2[j] (e j)) (hr : ∀ j (h1 : j < items.size) (h2 : j < items2.size), e j = false → RcLt A.in1 s items[j] items2[j] (r j))
    (h : Q (.bool (firstLt e r (decide (items.size < items2.size)) (List.range (min items.size items2.size)))) s) : wpAny (model prog w) A (call (.builtin "tuple.__lt__") [.ref l, .ref b]) Q E s := by
  obtain ⟨⟨cls, dd, data, sl⟩, ho, hc, n, hd⟩ := id hl
  obtain ⟨⟨cls2, dd2, data2, sl2⟩, ho2, hc2, n2, hd2⟩ := id hb
  simp only at hc hd hc2 hd2
  subst hc hd hc2 hd2
  exact call_meets F.slot_tuple_lt ⟨_, ho, rfl⟩ F.entry_tuple_lt (F.args_tuple_lt_2 _ _) (tuple_ltAt l b items items2 n n2 dd dd2 sl sl2 e r) ⟨ho, ho2, he, hr, h⟩
theorem gh_oneLt_tup {xs ys : List PyData} {a b : Value} {as bs : List Addr} {Q : Bool → Shared → Prop} (ra : Reads s.heap a (.tuple xs) as) (rb : Reads s.heap b (.tuple ys) bs) (hal : alikeAll xs ys = true)
    (hu : A.units + min (PyData.tuple xs).depth (PyData.tuple ys).depth < cLine) (hq : Q (dataLt (.tuple xs) (.tuple ys)) s) : wpAny (model prog w) A (oneLt' true a b) Q E s := by
  cases ra with
  | @tuple l o vs n _ as₁ h1 h2 h3 h4 =>
    cases rb with
    | @tuple l' o' vs' n' _ bs₁ k1 k2 k3 k4 =>
      have n1 : vs.size = xs.length := by simpa using ReadsAll.length _ _ _ h4
      have n2 : vs'.size = ys.length := by simpa using ReadsAll.length _ _ _ k4
      rw [dataLt_tuple, ← firstLt_toks xs ys hal, ← n1, ← n2] at hq
      rw [oneLt'_eq]
      simp only [if_true]
      refine wpAny_bind (wpAny_cRoomFor (room_here hu) ?_)
      refine wpAny_bind (wpAny_callSpecialIfBound?_slot (T := "tuple") ⟨_, h1, h2⟩ F.slot_tuple_lt (gh_call_tuple_lt (e := pairEq xs ys) (r := fun j => dataLt (xs.getD j .none) (ys.getD j .none)) ⟨_, h1, h2, _, h3⟩ ⟨_, k1, k2, _, k3⟩ (fun j j1 j2 => ?_) (fun j j1 j2 hj => ?_) ?_))
      · have := eqAt_alikeAll xs ys A.in1 s vs.toList vs'.toList _ _ h4 k4 hal (room_in hu) j (by simpa using j1) (by simpa using j2)
        simpa using this
      · have := rcLt_alikeAll xs ys A.in1 s vs.toList vs'.toList _ _ h4 k4 hal (room_in hu) j (by simpa using j1) (by simpa using j2) hj
        simpa using this
      · exact wpAny_truthy_bool hq
theorem gh_kind {M : Model} {vs : List Value} {Q : SortKind → Shared → Prop} {a : Addr} {o : Obj} {n : Nat} {rest : List Value} (ev : vs = .ref a :: rest) (ho : s.heap.get? a = some o) (hc : o.cls = .type "tuple") (hd : o.data = .seq #[] n)
    (hT : ∀ v ∈ vs, ∃ b o xs n, v = .ref b ∧ s.heap.get? b = some o ∧ o.cls = .type "tuple" ∧ o.data = .seq xs n) (hL : ∀ v ∈ vs, Looks M s.heap (typeOf v) (.type "tuple")) (h : Q oneType' s) :
    wpAny M A (keyKind' vs.toArray) Q E s := by
  rw [keyKind'_eq, List.mapM_toArray, map_eq_pure_bind]
  have first : ∀ (v : Value) (b : Addr) (o : Obj) (xs : Array Value) (n : Nat) (Q' : Option Value → Shared → Prop), v = .ref b → s.heap.get? b = some o → o.cls = .type "tuple" → o.data = .seq xs n → Q' xs[0]? s → wpAny M A (firstOfTuple' v) Q' E s := by
    intro v b o xs n Q' e1 e2 e3 e4 q
    subst e1
    rw [kas_first_eq]
    have : Looks M s.heap (typeOf (.ref b)) (.type "tuple") := e3 ▸ (Looks.ld e2).andThen .now
    refine wpAny_bind (this.here ?_)
    rw [if_neg (by simp)]
    exact wpAny_bind (listItems_at e2 e4 (wpAny_pure q))
  have all : ∀ (l : List Value) (Q' : List (Option Value) → Shared → Prop), (∀ v ∈ l, ∃ b o xs n, v = .ref b ∧ s.heap.get? b = some o ∧ o.cls = .type "tuple" ∧ o.data = .seq xs n) → (∀ fs : List (Option Value), fs.length = l.length → Q' fs s) → wpAny M A (l.mapM firstOfTuple') Q' E s := by
    intro l
    induction l with
    | nil => intro Q' _ q; rw [List.mapM_nil]; exact wpAny_pure (q [] rfl)
    | cons v l ih =>
      intro Q' hv q
      obtain ⟨b, o, xs, n, e1, e2, e3, e4⟩ := hv v (List.mem_cons_self ..)
      rw [List.mapM_cons]
      exact wpAny_bind (first v b o xs n _ e1 e2 e3 e4 (wpAny_bind (ih (fun bs s' => wpAny M A (pure (xs[0]? :: bs)) Q' E s') (fun v hv' => hv v (List.mem_cons_of_mem _ hv')) fun fs hl => wpAny_pure (q _ (by simp [hl])))))
  have go : ∀ fs : List (Option Value), fs.length = rest.length → wpAny M A (do
      if ((none :: fs : List (Option Value)).toArray.all (·.isSome)) = true then
        rule "list.sort.keys-are-tuples"
        return tuples' ((← oneTypeOnly' (((none :: fs : List (Option Value)).toArray.filterMap id))).any (· != .type "tuple"))
      if (((none :: fs : List (Option Value)).toArray)[0]?.bind id).isSome = true then return general'
      return if (← oneTypeOnly' vs.toArray).isSome = true then oneType' else general') Q E s := by
    intro fs hl
    rw [if_neg (by simp), if_neg (by simp)]
    rw [oneTypeOnly'_eq, List.mapM_toArray, map_eq_pure_bind]
    refine wpAny_bind (wpAny_bind (wpAny_bind (kas_mapM (r := Value.type "tuple") _ (fun v hv Q' hq => (hL v hv).here hq) (wpAny_pure ?_))))
    have hall : ((List.map (fun _ => Value.type "tuple") vs).toArray.all fun x => x == Value.type "tuple") = true := by
      simp only [List.all_toArray, List.all_map, List.all_eq_true]
      intro _ _
      exact beq_self_eq_true _
    have h0 : (List.map (fun _ => Value.type "tuple") vs).toArray[0]? = some (Value.type "tuple") := by rw [ev]; simp
    rw [h0]
    simp only [hall, if_true]
    exact wpAny_pure (wpAny_pure h)
  subst ev
  rw [List.mapM_cons]
  refine wpAny_bind (wpAny_bind (wpAny_bind (first _ a o #[] n _ rfl ho hc hd (wpAny_bind (all rest _ (fun v hv => hT v (List.mem_cons_of_mem _ hv)) fun fs hl => wpAny_pure ?_)))))
  exact wpAny_pure (go fs hl)
theorem GhSortsAt {vs : List Value} {ds : List PyData} (e : EachIs (fun v d => ∃ as, Reads s.heap v d as) vs ds) (hal : AllAlike ds) (hk : Sortable ds ∨ ∃ r, ds = .tuple [] :: r) (hu : ∀ d, d ∈ ds → A.units + d.depth < cLine) : SortsAt prog w A s (dataKind s.heap ds) vs := by
  rcases hk with hk | ⟨r, rfl⟩
  · exact SortsAt.data e hal hk hu
  have room : ∀ {d d' : PyData}, d ∈ PyData.tuple [] :: r → A.units + min d.depth d'.depth < cLine := fun {d d'} hd => Nat.lt_of_le_of_lt (Nat.add_le_add_left (Nat.min_le_left _ _) _) (hu d hd)
  have tup : ∀ d, d ∈ PyData.tuple [] :: r → ∃ xs, d = .tuple xs := by
    intro d hd
    have := hal d hd (.tuple []) (List.mem_cons_self ..)
    cases d with
    | tuple xs => exact ⟨xs, rfl⟩
    | _ => simp [alike] at this
  refine ⟨fun v hv => ?_, oneType', ?_, fun h2 E Q hq => ?_⟩
  · obtain ⟨d, hd, as, r⟩ := e.left v hv
    exact ⟨_, dataKind_some hal hd r⟩
  · intro E x y a b Q ha hb hq
    obtain ⟨d, as, hd, ra, rfl⟩ := dataKind_inv ha
    obtain ⟨d', as', hd', rb, rfl⟩ := dataKind_inv hb
    rw [keyLt'_oneType]
    have hdd := hal d hd d' hd'
    have hroom := room (d' := d') hd
    obtain ⟨xs, rfl⟩ := tup d hd
    obtain ⟨ys, rfl⟩ := tup d' hd'
    exact gh_oneLt_tup ra rb (by simpa [alike] using hdd) hroom hq
  · have shape : ∀ v d, d ∈ PyData.tuple [] :: r → (∃ as, Reads s.heap v d as) → ∃ b o xs n ds', v = .ref b ∧ s.heap.get? b = some o ∧ o.cls = .type "tuple" ∧ o.data = .seq xs n ∧ d = .tuple ds' ∧ xs.size = ds'.length := by
      intro v d hd ⟨as, ra⟩
      obtain ⟨ys, rfl⟩ := tup d hd
      cases ra with
      | @tuple l o vs n _ as₁ h1 h2 h3 h4 => exact ⟨l, o, vs, n, ys, rfl, h1, h2, h3, rfl, by simpa using ReadsAll.length _ _ _ h4⟩
    have hT : ∀ v ∈ vs, ∃ b o xs n, v = .ref b ∧ s.heap.get? b = some o ∧ o.cls = .type "tuple" ∧ o.data = .seq xs n := by
      intro v hv
      obtain ⟨d, hd, as, ra⟩ := e.left v hv
      obtain ⟨b, o, xs, n, _, q1, q2, q3, q4, _⟩ := shape v d hd ⟨as, ra⟩
      exact ⟨b, o, xs, n, q1, q2, q3, q4⟩
    have hL : ∀ v ∈ vs, Looks (model prog w) s.heap (typeOf v) (.type "tuple") := by
      intro v hv
      obtain ⟨b, o, xs, n, q1, q2, q3, q4⟩ := hT v hv
      subst q1
      show Looks _ _ (typeOf (Value.ref _)) _
      exact q3 ▸ (Looks.ld q2).andThen .now
    cases e with
    | @cons v0 _ _ _ ra t =>
      obtain ⟨b, o, xs, n, ds', q1, q2, q3, q4, q5, q6⟩ := shape v0 _ (List.mem_cons_self ..) ra
      cases q5
      have : xs = #[] := Array.eq_empty_of_size_eq_zero q6
      subst this
      subst q1
      exact gh_kind rfl q2 q3 q4 hT hL hq
theorem gh_sorted_data {β : Type} {vs : List Value} {bs : List β} {enc : β → PyData} {R : Value → β → Prop} {l : Addr} {Q : Value → Shared → Prop} (hl : s.heap.IsList l vs.toArray) (e : EachIs R vs bs) (er : EachIs (fun v b => ∃ as, Reads s.heap v (enc b) as) vs bs) (hal : AllAlike (bs.map enc)) (hk : Sortable (bs.map enc) ∨ ∃ r, bs.map enc = .tuple [] :: r) (hL : bs.length ≤ sizeLine)
    (hu : ∀ b, b ∈ bs → A.units + 2 + (enc b).depth < cLine) (h : ∀ out, out.length = bs.length → EachIs R out (bs.mergeSort (dataLe false enc)) → Q (.ref (s.heap.objs.size + 1)) { s with heap := sortedAll s.heap vs (List.toArray out) }) :
    wpAny (model prog w) A (call (.builtin "sorted") [.ref l]) Q E s := by
  have er' : EachIs (fun v b => ∃ as, Reads (sortingHeap (copyHeap s.heap vs) (s.heap.objs.size + 1) vs) v (enc b) as) vs bs := er.mono fun _ _ ⟨as, r⟩ => ⟨as, PyProof.Rows.Reads.keeps (fun _ _ => sorting_copy_old) r⟩
  exact sorted_vals hl (GhSortsAt (s := { s with heap := sortingHeap (copyHeap s.heap vs) (s.heap.objs.size + 1) vs }) (each_map (R := fun v d => ∃ as, Reads (sortingHeap (copyHeap s.heap vs) (s.heap.objs.size + 1) vs) v d as) enc er') hal hk (bound_map hu)) (by rw [e.length]; exact hL)
    (h _ (by rw [sortVals_length false rfl]; exact e.length) (sortVals_data false e er' hal))
end
end PySem.W
set_option Elab.async false
set_option linter.all false
set_option maxRecDepth 100000
set_option maxHeartbeats 1000000
set_option autoImplicit false
namespace GH
open PySem PySem.Spec PyProof.Rows L2
section
variable {K : PySem.W.Frag}
theorem OR.own {g g' : Gh} {H : Hp} {t : List Addr} (hm : g'.m = g.m ++ t) (ho : ∀ a, ¬ g.own a → ¬ g'.own a) {a : Addr} {o : Ob} (q : OR K g H a o) : OR K g' H a o := by
  cases o with
  | lst l => obtain ⟨xs, e, r⟩ := q; exact ⟨xs, e, r.own hm ho⟩
  | dic l => obtain ⟨xs, e, r⟩ := q; exact ⟨xs, e, r.1, r.2.own hm ho⟩
  | ins c f => obtain ⟨dx, gs, e, r⟩ := q; exact ⟨dx, gs, e, r.1, r.2.own hm ho⟩
theorem HR.aside {g : Gh} {H : Hp} {h : Hv} {D : Addr} {o : HO} (R1 : HR K g H h) (nD : H D = none) (mo : Mut (some o)) : ExtS g H ⟨g.m, D :: g.r⟩ (upd H D o) ∧ HR K ⟨g.m, D :: g.r⟩ (upd H D o) h := by
  have ES : ExtS g H ⟨g.m, D :: g.r⟩ (upd H D o) := ⟨⟨[], by simp, by simp⟩, ⟨[D], rfl, fun b hb => by rw [List.mem_singleton.mp hb]; exact nD⟩, fun b o e hb => by rw [upd_ne (ne_of_none e nD)]; exact e⟩
  refine ⟨ES, R1.len, R1.nd, fun a ha z => ?_, fun a ha => ?_, fun i o a e1 e2 => ?_⟩
  · rcases List.mem_cons.mp z with z | z
    · subst z; exact R1.fresh nD (.inl ha)
    · exact R1.dis a ha z
  · rcases List.mem_cons.mp ha with z | z
    · subst z; exact ⟨_, upd_same, mo⟩
    · obtain ⟨ob, e, mo⟩ := R1.al a z
      exact ⟨ob, by rw [upd_ne (ne_of_none e nD)]; exact e, mo⟩
  · have q := R1.obj i o a e1 e2
    cases o with
    | lst l => obtain ⟨xs, e, r⟩ := q; exact ⟨xs, by rw [upd_ne (ne_of_none e nD)]; exact e, r.extS R1 ES⟩
    | dic l => obtain ⟨xs, e, r⟩ := q; exact ⟨xs, by rw [upd_ne (ne_of_none e nD)]; exact e, r.1, r.2.extS R1 ES⟩
    | ins c f => obtain ⟨dx, gs, e, r⟩ := q; exact ⟨dx, gs, by rw [upd_ne (ne_of_none e nD)]; exact e, r.1, r.2.extS R1 ES⟩
theorem promote {W : WX} {σ : L2.St} {g1 g2 : Gh} {H1 H : Hp} {h h1 : Hv} {Q : VK} {D : Addr} {o0 o1 : HO} {ob : Ob} (R1 : HR K g1 H1 h1) (nD : H1 D = none) (E : Ext ⟨g1.m, D :: g1.r⟩ (upd H1 D o0) g2 H) (R : HR K g2 H h) (m1 : Mut (some o1))
    (hob : ∀ {g3 : Gh} {t : List Addr}, g3.m = g2.m ++ t → (∀ a, ¬ g2.own a → ¬ g3.own a) → OR K g3 (upd H D o1) D ob) (A : After K W (vr K) σ g1 H1 Q (.ok (.ref h.length) (h ++ [ob]))) : Q (.ref D) (upd H D o1) := by
  have hD : D ∈ g2.r := by rw [E.r]; exact List.mem_cons_self ..
  have er : g2.r = D :: g1.r := E.r
  have hr : ∀ b ∈ g1.r, b ∈ g2.r := fun b hb => by rw [er]; exact List.mem_cons_of_mem _ hb
  have nm : D ∉ g2.m := fun z => R.dis D z hD
  have nr : D ∉ g1.r := fun z => by obtain ⟨o, e⟩ := R1.own_there (.inr z); rw [nD] at e; cases e
  obtain ⟨ods, e0, m0⟩ := R.al D hD
  have R := R.reset (zs := o1) hD e0 m0 m1
  obtain ⟨t, em, n⟩ := E.m
  have em : g2.m = g1.m ++ t := em
  have E' : Ext g1 H1 ⟨g2.m ++ [D], g1.r⟩ (upd H D o1) := ⟨⟨t ++ [D], by show g2.m ++ [D] = _; rw [em, List.append_assoc], fun b hb => by
    rcases List.mem_append.mp hb with hb | hb
    · have q := n b hb
      have hne : b ≠ D := by rintro rfl; rw [upd_same] at q; cases q
      rw [upd_ne hne] at q
      exact q
    · rw [List.mem_singleton.mp hb]; exact nD⟩, rfl, fun b o e hb => by
      have hne := ne_of_none e nD
      rw [upd_ne hne]
      exact E.keep b o (by rw [upd_ne hne]; exact e) hb, fun b o e => by
      have hne := ne_of_none e nD
      rw [upd_ne hne]
      exact E.there b o (by rw [upd_ne hne]; exact e)⟩
  have hm : (Gh.mk (g2.m ++ [D]) g1.r).m = g2.m ++ [D] := rfl
  have ho : ∀ a, ¬ g2.own a → ¬ (Gh.mk (g2.m ++ [D]) g1.r).own a := fun a ha z => by
    rcases z with z | z
    · rcases List.mem_append.mp z with z | z
      · exact ha (.inl z)
      · exact ha (.inr (by rw [List.mem_singleton.mp z]; exact hD))
    · exact ha (.inr (hr a z))
  refine A ⟨g2.m ++ [D], g1.r⟩ (upd H D o1) (.ref D) E' ⟨by simp [R.len], ?_, fun a ha => ?_, fun a ha => R.al a (hr a ha), fun i o a e1 e2 => ?_⟩ ?_
  · show (g2.m ++ [D]).Nodup
    refine List.nodup_append.mpr ⟨R.nd, by simp, fun a ha b hb => ?_⟩
    rw [List.mem_singleton.mp hb]
    rintro rfl
    exact nm ha
  · have ha : a ∈ g2.m ++ [D] := ha
    rcases List.mem_append.mp ha with ha | ha
    · exact fun z => R.dis a ha (hr a z)
    · rw [List.mem_singleton.mp ha]; exact nr
  · have e2 : (g2.m ++ [D])[i]? = some a := e2
    by_cases hi : i < h.length
    · rw [List.getElem?_append_left hi] at e1
      rw [List.getElem?_append_left (by rw [R.len]; exact hi)] at e2
      exact (R.obj i o a e1 e2).own hm ho
    · have hi' : i = h.length := by
        have := (List.getElem?_eq_some_iff.mp e1).1
        simp at this
        omega
      subst hi'
      rw [List.getElem?_append_right (Nat.le_refl _)] at e1
      rw [List.getElem?_append_right (by rw [R.len]; exact Nat.le_refl _)] at e2
      simp at e1
      rw [R.len] at e2
      simp at e2
      subst e1 e2
      exact hob hm ho
  · simp only [VR]
    refine ⟨D, rfl, ?_⟩
    show (g2.m ++ [D])[h.length]? = some D
    rw [← R.len]
    simp

/-! ### dict displays -/
def dPairs : List (Den × Den) → Loc → Hv → Res (List (Val × Val))
  | [], _, h => .ok [] h
  | (a, b) :: r, l, h => match a l h with
    | .ok k h1 => (match b l h1 with
      | .ok v h2 => (match dPairs r l h2 with
        | .ok ps h3 => .ok ((k, v) :: ps) h3
        | _ => .fail)
      | _ => .fail)
    | _ => .fail
def dMk (ps : List (Val × Val)) : List (Val × Val) := ps.foldl (fun acc p => dPut acc p.1 p.2) []
def dDisp (ds : List (Den × Den)) : Den := fun l h => match dPairs ds l h with
  | .ok ps h1 => if (ps.all fun p => (keyOf p.1).isSome) = true ∧ ps.length ≤ 15 then .ok (.ref h1.length) (h1 ++ [.dic (dMk ps)]) else .fail
  | _ => .fail
abbrev tPP (K : PySem.W.Frag) (ds : List (Den × Den)) : List (TE × TE) := ds.map fun p => (tG K W0 (vr K) p.1, tG K W0 (vr K) p.2)
theorem pairs_of {l : Loc} {σ : L2.St} : ∀ {ds : List (Den × Den)} {g : Gh} {H : Hp} {h h' : Hv} {ps : List (Val × Val)} {Rq : List (V × V) → Hp → Prop}, SR K g H l σ → HR K g H h → dPairs ds l h = .ok ps h' →
    (∀ g' H' xs, Ext g H g' H' → HR K g' H' h' → VRs K g' H' (ps.map (·.1)) (xs.map (·.1)) → VRs K g' H' (ps.map (·.2)) (xs.map (·.2)) → Rq xs H') → tPairs (tPP K ds) σ H Rq
  | [], g, H, h, h', ps, Rq, S, R, e, c => by
    simp only [dPairs, Res.ok.injEq] at e
    obtain ⟨rfl, rfl⟩ := e
    exact c g H [] Ext.refl R VRs.nil VRs.nil
  | (a, b) :: r, g, H, h, h', ps, Rq, S, R, e, c => by
    simp only [dPairs] at e
    split at e
    · rename_i k h1 ea
      split at e
      · rename_i v h2 eb
        split at e
        · rename_i ps' h3 er
          simp only [Res.ok.injEq] at e
          obtain ⟨rfl, rfl⟩ := e
          refine ⟨g, l, h, S, R, ?_⟩
          dsimp only
          rw [ea]
          intro g1 H1 x E1 R1 rk
          have S1 := S.ext R E1
          refine ⟨g1, l, h1, S1, R1, ?_⟩
          show After K W0 (vr K) σ g1 H1 _ (b l h1)
          rw [eb]
          intro g2 H2 y E2 R2 rv
          refine pairs_of (S1.ext R1 E2) R2 er fun g3 H3 xs E3 R3 r1 r2 => ?_
          refine c g3 H3 ((x, y) :: xs) ((E1.trans E2).trans E3) R3 ?_ ?_
          · exact VRs.cons ((VR.ext R1 E2 rk).ext R2 E3) r1
          · exact VRs.cons (VR.ext R2 E3 rv) r2
        · cases e
      · cases e
    · cases e
def GPs (X : Cx) (pos : Pos) (keys : List (Option Expr)) (values : List Expr) (ds : List (Den × Den)) : Prop := PPs X pos keys values (tPP X.K ds)
section
variable {X : Cx} {W : WX}
theorem gps_nil {pos : Pos} : GPs X pos [] [] [] := pps_nil
theorem gps_cons {pos : Pos} {k v : Expr} {ks : List (Option Expr)} {vs : List Expr} {a b : Den} {ds : List (Den × Den)} (hk : GE X W0 k a) (hv : GE X W0 v b) (hr : GPs X pos ks vs ds) : GPs X pos (some k :: ks) (v :: vs) ((a, b) :: ds) := pps_cons hk hv hr
theorem merge_ok {g : Gh} {H : Hp} : ∀ {ps : List (Val × Val)} {kvs : List (Key × V)} {acc : List (Val × Val)} {ka : List (Key × V)}, DR K g H acc ka → ps.map (fun p => keyOf p.1) = kvs.map (fun q => some q.1) → VRs K g H (ps.map (·.2)) (kvs.map (·.2)) →
    DR K g H (ps.foldl (fun acc p => dPut acc p.1 p.2) acc) (mergeK ka kvs)
  | [], [], acc, ka, d, _, _ => d
  | [], _ :: _, _, _, _, e, _ => by cases e
  | _ :: _, [], _, _, _, e, _ => by cases e
  | p :: ps, q :: kvs, acc, ka, d, e, r => by
    simp only [List.map_cons, List.cons.injEq] at e
    simp only [List.map_cons, VRs] at r
    obtain ⟨x, xs, e1, r1, r2⟩ := r
    cases e1
    show DR K g H (ps.foldl (fun acc p => dPut acc p.1 p.2) (dPut acc p.1 p.2)) (mergeK (putK ka q.1 q.2) kvs)
    exact merge_ok (d.put e.1 r1) e.2 r2
theorem kvs_of {g : Gh} {H : Hp} : ∀ {ps : List (Val × Val)} {xs : List (V × V)}, (ps.all fun p => (keyOf p.1).isSome) = true → VRs K g H (ps.map (·.1)) (xs.map (·.1)) → VRs K g H (ps.map (·.2)) (xs.map (·.2)) →
    ∃ kvs : List (Key × V), xs = kvs.map (fun kv => (kV kv.1, kv.2)) ∧ ps.map (fun p => keyOf p.1) = kvs.map (fun q => some q.1) ∧ VRs K g H (ps.map (·.2)) (kvs.map (·.2)) ∧ kvs.length = ps.length
  | [], [], _, _, _ => ⟨[], rfl, rfl, VRs.nil, rfl⟩
  | [], _ :: _, _, r, _ => by simp [VRs] at r
  | _ :: _, [], _, r, _ => by simp [VRs] at r
  | p :: ps, x :: xs, a, r1, r2 => by
    simp only [List.all_cons, Bool.and_eq_true] at a
    simp only [List.map_cons, VRs] at r1 r2
    obtain ⟨y, ys, e1, q1, t1⟩ := r1
    cases e1
    obtain ⟨y, ys, e1, q2, t2⟩ := r2
    cases e1
    obtain ⟨kvs, e1, e2, e3, e4⟩ := kvs_of a.2 t1 t2
    obtain ⟨k, hk⟩ := Option.isSome_iff_exists.mp a.1
    refine ⟨(k, x.2) :: kvs, ?_, ?_, ?_, by simp [e4]⟩
    · rw [e1, List.map_cons, ← key_V q1 hk]
    · simp only [List.map_cons, hk, e2]
    · exact VRs.cons q2 e3
theorem ge_disp {keys : List (Option Expr)} {values : List Expr} {ds : List (Den × Den)} {pos : Pos} (hp : GPs X pos keys values ds) (hall : keys.all (·.isSome) = true := by rfl) (hl : keys.length = values.length := by rfl) (h0 : keys ≠ [] := by exact fun h => nomatch h)
    (h15 : keys.length ≤ 15 := by decide) : GE X W (.Dict keys values pos) (dDisp ds) := by
  refine PE.imp (pe_disp hp hall hl h0 h15) fun σ H Q ⟨g, l, h, S, R, A⟩ p np => ?_
  obtain ⟨ES, RD⟩ := R.aside (o := .dK []) np trivial
  unfold dDisp at A
  split at A
  · rename_i ps h1 ep
    split at A
    · rename_i hk
      refine pairs_of (S.extS R ES) RD ep fun g2 H2 xs E R2 r1 r2 => ?_
      obtain ⟨kvs, e1, e2, e3, e4⟩ := kvs_of hk.1 r1 r2
      have hD : p ∈ g2.r := by rw [E.r]; exact List.mem_cons_self ..
      have e0 : H2 p = some (.dK []) := E.keep p _ upd_same (fun z => R.fresh np (.inl z))
      refine ⟨e0, kvs, e1, by rw [e4]; exact hk.2, ?_⟩
      refine promote R np E R2 trivial (fun hm ho => ?_) A
      obtain ⟨ods, eq0, m0⟩ := R2.al p hD
      have d := merge_ok DR.nil e2 (e3.reset (zs := .dK (mergeK [] kvs)) hD eq0 m0)
      exact ⟨_, upd_same, d.1, d.2.own hm ho⟩
    · exact A.elim
  · exact A.elim

/-! ### {} -/
def dNewD : Den := fun _ h => .ok (.ref h.length) (h ++ [.dic []])
theorem ge_dnew {pos : Pos} : GE X W (.Dict [] [] pos) dNewD := PE.imp pe_dnewK fun σ H Q ⟨g, l, h, S, R, A⟩ p np => push_ok R A np fun E => ⟨[], upd_same, DR.nil⟩

/-! ### is of bools -/
def vIsB (v u : Val) (h : Hv) : Res Val := match v, u with
  | .bl a, .bl b => .ok (.bl (decide (a = b))) h
  | _, _ => .fail
def vNotB (v u : Val) (h : Hv) : Res Val := match v, u with
  | .bl a, .bl b => .ok (.bl (!decide (a = b))) h
  | _, _ => .fail
theorem og_isB : OpG X (compareOp .Is) vIsB := by
  refine ⟨_, op_isBl, fun W g H h σ v u x y Q R rv ru A => ?_⟩
  unfold vIsB at A
  split at A
  · simp only [VR] at rv ru
    exact ⟨_, _, rv, ru, A g H _ Ext.refl R (by simp only [VR])⟩
  · exact A.elim
theorem og_notB : OpG X (compareOp .IsNot) vNotB := by
  refine ⟨_, op_notBl, fun W g H h σ v u x y Q R rv ru A => ?_⟩
  unfold vNotB at A
  split at A
  · simp only [VR] at rv ru
    exact ⟨_, _, rv, ru, A g H _ Ext.refl R (by simp only [VR])⟩
  · exact A.elim

/-! ### never -/
def dFail : Den := fun _ _ => .fail
def sFail : Stm := fun _ _ => .fail
theorem ge_fail {e : Expr} : GE X W e dFail := ⟨fun _ _ _ _ _ _ ⟨_, _, _, _, _, A⟩ => A.elim⟩
theorem gs_fail {s : Stmt} : GS X W s sFail := ⟨fun _ _ _ _ _ _ ⟨_, _, _, _, _, A⟩ => A.elim⟩
theorem gss_fail {s : List Stmt} : GSs X W s sFail := ⟨fun _ _ _ _ _ _ ⟨_, _, _, _, _, A⟩ => A.elim⟩

/-! ### what stands at the top -/
theorem ge_top {x : Str} {v : Val} {y : V} {u : Value} {pos : Pos} (hm : X.mg x = some u) (r : RelV y u) (rv : ∀ g H, VR X.K g H v y) (hg : Gl X x := by rfl) (hd : (x == ("__debug__" : Str)) = false := by decide +kernel) : GE X W (.Name x pos) (dC v) := ge_c (pe_glob hg hm r hd) rv
/-- a table at the top: texts to texts -/
def dTab (t : List (List Nat × Val)) (d : Den) : Den := fun l h => (d l h).bind fun v h1 => match v with
  | .str s => (match t.lookup s with
    | some w => .ok w h1
    | none => .fail)
  | _ => .fail
theorem ix_tab {d : Addr} {es : Array DictEntry} {n : Nat} (D : KDict X.K X.w d es n) : IxR X (fun x y H Q => ∃ (z : Str) (u0 : Value) (v0 : V), x = .ref d ∧ y = .str z ∧ PySem.W.nsIn X.K d z = some (some u0) ∧ RelV v0 u0 ∧ Q v0 H) := by
  intro value slice pins s σ H x y v u Q I rx ry h hs
  obtain ⟨z, u0, v0, rfl, rfl, e, r, q⟩ := h
  have hv : v = Value.ref d := rx
  subst hv
  exact tail_any (kd_type D I) PySem.F.slot_dict_getitem.lookup (op_item_kd D pins s σ H (.ref d) (.str z) (.ref d) u Q I rfl ry ⟨z, u0, v0, rfl, rfl, e, r, q⟩) hs
theorem ge_tab (t : List (List Nat × Val)) {d : Addr} {es : Array DictEntry} {n : Nat} {x : Str} {b : Expr} {db : Den} {p pos : Pos} (D : KDict X.K X.w d es n) (hm : X.mg x = some (.ref d)) (ht : ∀ q ∈ t, ∃ u y, PySem.W.nsIn X.K d (sOf q.1) = some (some u) ∧ RelV y u ∧ ∀ g H, VR X.K g H q.2 y)
    (hb : GE X W b db) (hg : Gl X x := by rfl) (hd : (x == ("__debug__" : Str)) = false := by decide +kernel) (hs : PlainIx b := by exact fun _ _ => rfl) : GE X W (.Subscript (.Name x p) b pos) (dTab t db) := by
  refine PE.imp (pe_ix (ix_tab D) (pe_glob (v := .ref d) hg hm rfl hd) hb hs) fun σ H Q ⟨g, l, h, S, R, A⟩ => ?_
  refine tG_of S R A fun v h1 g1 H1 x E S1 R1 r1 A1 => ?_
  split at A1
  · rename_i s
    split at A1
    · rename_i w e
      have hm : ∃ q ∈ t, q = (s, w) := by
        have gen : ∀ tb : List (List Nat × Val), tb.lookup s = some w → (s, w) ∈ tb := by
          intro tb
          induction tb with
          | nil => intro z; cases z
          | cons p tb ih =>
            intro z
            rw [List.lookup_cons] at z
            split at z
            · rename_i q
              cases z
              rw [show s = p.1 by simpa using q]
              exact List.mem_cons_self ..
            · exact List.mem_cons_of_mem _ (ih z)
        exact ⟨_, gen t e, rfl⟩
      obtain ⟨q, hq, rfl⟩ := hm
      obtain ⟨u, y, e1, e2, e3⟩ := ht _ hq
      simp only [VR] at r1
      subst r1
      exact ⟨_, u, y, rfl, rfl, e1, e2, A1 g1 H1 y Ext.refl R1 (e3 g1 H1)⟩
    · exact A1.elim
  · exact A1.elim

/-! ### sorted -/
def isNE : Val → Bool
  | .tup (_ :: _) => true
  | _ => false
def isPlainK : Val → Bool
  | .bl _ | .int _ | .str _ => true
  | _ => false
def sortOk (l : List Val) : Bool := okVs l && (l.all fun a => l.all fun b => PySem.W.alike (pd a) (pd b)) && (l.all isNE || l.all isPlainK || (match l with
  | .tup [] :: _ => true
  | _ => false)) && decide (dpVs l ≤ 190)
noncomputable def sortV (l : List Val) : List Val := l.mergeSort (PySem.W.dataLe false pd)
noncomputable def vSorted (v : Val) (h : Hv) : Res Val := match lstOf h v with
  | some l => if sortOk l = true then .ok (.lst (sortV l)) h else .fail
  | none => .fail
noncomputable def vSortedM (v : Val) (h : Hv) : Res Val := match lstOf h v with
  | some l => if sortOk l = true then .ok (.ref h.length) (h ++ [.lst (sortV l)]) else .fail
  | none => .fail
def rSortG (K : PySem.W.Frag) : List V → Hp → VK → Prop := fun vs H Q => ∃ (g : Gh) (a : Addr) (xs : List V) (bs : List Val), vs = [.ref a] ∧ SqL K H a xs ∧ VRs K g H bs xs ∧ sortOk bs = true ∧ ∀ ys p, VRs K g H (sortV bs) ys → H p = none → Q (.ref p) (upd H p (.lst ys))
theorem each_VR {g : Gh} {H : Hp} : ∀ {bs : List Val} {xs : List V} {us : List Value}, VRs K g H bs xs → Vals xs us → PySem.W.EachIs (fun u b => ∃ x, RelV x u ∧ VR K g H b x) us bs
  | [], xs, us, r, q => by
    simp only [VRs] at r
    subst r
    cases q
    exact .nil
  | b :: bs, xs, us, r, q => by
    simp only [VRs] at r
    obtain ⟨x, ys, rfl, r1, r2⟩ := r
    cases q with
    | cons q1 q2 => exact .cons ⟨x, q1, r1⟩ (each_VR r2 q2)
theorem VRs_each {g : Gh} {H : Hp} : ∀ {bs : List Val} {us : List Value}, PySem.W.EachIs (fun u b => ∃ x, RelV x u ∧ VR K g H b x) us bs → ∃ xs, VRs K g H bs xs ∧ Vals xs us
  | _, _, .nil => ⟨[], VRs.nil, .nil⟩
  | _, _, .cons ⟨x, q1, r1⟩ t => by
    obtain ⟨xs, r2, q2⟩ := VRs_each t
    exact ⟨x :: xs, VRs.cons r1 r2, .cons q1 q2⟩
theorem okVs_mem : ∀ {l : List Val} {v : Val}, okVs l = true → v ∈ l → okV v = true
  | w :: l, v, o, m => by
    simp only [okVs, Bool.and_eq_true] at o
    rcases List.mem_cons.mp m with rfl | m
    · exact o.1
    · exact okVs_mem o.2 m
theorem dpVs_mem : ∀ {l : List Val} {v : Val}, v ∈ l → dpV v ≤ dpVs l
  | w :: l, v, m => by
    simp only [dpVs]
    rcases List.mem_cons.mp m with rfl | m
    · omega
    · have := dpVs_mem m; omega
theorem cr_sortG (hu : X.A.units + 200 < cLine) : CallR X (.builtin "sorted") (rSortG X.K) := by
  intro pins s σ H vs us Q I r h
  obtain ⟨g, a, xs, bs, rfl, hs, rb, ok, q⟩ := h
  obtain ⟨its, rv, hl, hz⟩ := I.list hs
  rw [Vals.ref1 r]
  simp only [sortOk, Bool.and_eq_true, decide_eq_true_eq] at ok
  obtain ⟨⟨⟨o1, o2⟩, o3⟩, o4⟩ := ok
  have hlen : bs.length = its.length := by rw [rb.length, rv.length]
  refine PySem.W.gh_sorted_data (enc := pd) (bs := bs) hl.isList (each_VR rb rv) ?_ (fun d hd d' hd' => ?_) ?_ (by rw [rb.length]; exact hz) (fun b hb => ?_) fun out hlo eo => ?_
  · refine (PySem.W.each_mem (each_VR rb rv)).mono fun u b ⟨⟨x, q1, q2⟩, hb⟩ => ?_
    exact Dp.reads I _ _ _ (VR.dp (okVs_mem o1 hb) q2) q1
  · obtain ⟨b, hb, rfl⟩ := List.mem_map.mp hd
    obtain ⟨b', hb', rfl⟩ := List.mem_map.mp hd'
    exact List.all_eq_true.mp (List.all_eq_true.mp o2 b hb) b' hb'
  · simp only [Bool.or_eq_true] at o3
    rcases o3 with (o3 | o3) | o3
    · refine .inl (.inl fun d hd => ?_)
      obtain ⟨b, hb, rfl⟩ := List.mem_map.mp hd
      have := List.all_eq_true.mp o3 b hb
      unfold isNE at this
      split at this
      · exact ⟨_, _, by simp only [pd, pds]; rfl⟩
      · cases this
    · refine .inl (.inr fun d hd => ?_)
      obtain ⟨b, hb, rfl⟩ := List.mem_map.mp hd
      have := List.all_eq_true.mp o3 b hb
      unfold isPlainK at this
      split at this
      · exact ⟨by simp [pd], fun xs => by simp [pd]⟩
      · exact ⟨by simp [pd], fun xs => by simp [pd]⟩
      · exact ⟨by simp [pd], fun xs => by simp [pd]⟩
      · cases this
    · split at o3
      · exact .inr ⟨_, by simp only [List.map_cons, pd, pds]; rfl⟩
      · cases o3
  · have h1 := dpVs_mem hb
    rw [pd_depth]
    omega
  · obtain ⟨ys, r1, r2⟩ := VRs_each eo
    obtain ⟨ep, he'⟩ := PyProof.Rows.sortedAll_at s.heap its out.toArray
    have hlen2 : ys.length ≤ sizeLine := by rw [r2.length, hlo, rb.length]; exact hz
    exact ⟨.ref _, upd H (s.heap.objs.size + 1) (.lst ys), I.laid (t' := s.toks) (fun _ _ => PyProof.Rows.sortedAll_old) (Nat.le_succ _) ⟨hlen2, out, ep, r2, he'⟩, rfl, q ys _ r1 (I.hok.fresh (Nat.le_succ _))⟩
theorem sorted_at {g : Gh} {H : Hp} {h : Hv} {v : Val} {x : V} {l : List Val} {Q : VK} (R : HR X.K g H h) (r : VR X.K g H v x) (hl : lstOf h v = some l) (ok : sortOk l = true) (c : ∀ ys p, VRs X.K g H (sortV l) ys → H p = none → Q (.ref p) (upd H p (.lst ys))) : rSortG X.K [x] H Q := by
  obtain ⟨a, xs, rfl, s, rs⟩ := lstOf_ok R r hl
  exact ⟨g, a, xs, l, rfl, SqL.of s, rs, ok, c⟩
theorem c1_sorted (hu : X.A.units + 200 < cLine) : C1 X (.builtin "sorted") vSorted := ⟨_, cr_sortG hu, fun W g H h σ v x Q R r A => by
  unfold vSorted at A
  split at A
  · rename_i l hl
    split at A
    · rename_i ok
      refine sorted_at R r hl ok fun ys p ry np => ?_
      obtain ⟨E4, R4⟩ := R.grow (o := .lst ys) np
      refine A g _ (.ref p) E4 R4 ?_
      simp only [VR]
      exact ⟨p, _, rfl, R.fresh np, upd_same, ry.ext R E4⟩
    · exact A.elim
  · exact A.elim⟩
theorem c1_sortedM (hu : X.A.units + 200 < cLine) : C1 X (.builtin "sorted") vSortedM := ⟨_, cr_sortG hu, fun W g H h σ v x Q R r A => by
  unfold vSortedM at A
  split at A
  · rename_i l hl
    split at A
    · rename_i ok
      exact sorted_at R r hl ok fun ys p ry np => push_ok R A np fun E => ⟨ys, upd_same, ry.ext R E⟩
    · exact A.elim
  · exact A.elim⟩
end
end
end GH
set_option Elab.async false
set_option linter.all false
set_option maxRecDepth 100000
set_option maxHeartbeats 1000000
set_option autoImplicit false
/-! All defs at once: levels; the law's end. -/
namespace GH
open PySem PySem.Spec PyProof.Rows L2
abbrev Gam := Nat → DF
section
variable {X : Cx} {W : WX}
theorem takes0 : Takes X W0 := fun u s' ⟨_, _, _, _, _, _, _, _, _, _, _, _, _, _, _, _, w⟩ => w.elim
/-- arguments, with their number -/
structure GAN (X : Cx) (W : WX) (es : List Expr) (n : Nat) (d : DenG (List Val)) : Prop where
  ga : GA X W es d
  len : ∀ l h vs h', d l h = .ok vs h' → vs.length = n
theorem gan_nil : GAN X W [] 0 dNil := ⟨ga_nil, fun l h vs h' e => by
  simp only [dNil, Res.ok.injEq] at e
  rw [← e.1]; rfl⟩
theorem gan_cons {e : Expr} {es : List Expr} {n : Nat} {d : Den} {r : DenG (List Val)} (ha : GE X W e d) (hr : GAN X W es n r) (hs : starEach (e :: es) X.env = (false, eval e X.env) :: starEach es X.env := by rfl) : GAN X W (e :: es) (n + 1) (dCons d r) := by
  refine ⟨ga_cons ha hr.ga hs, fun l h vs h' q => ?_⟩
  unfold dCons at q
  cases e1 : d l h with
  | exc x h1 => rw [e1] at q; cases q
  | fail => rw [e1] at q; cases q
  | ok v h1 =>
    rw [e1] at q
    simp only [Res.bind_ok] at q
    cases e2 : r l h1 with
    | exc x h2 => rw [e2] at q; cases q
    | fail => rw [e2] at q; cases q
    | ok ws h2 =>
      rw [e2] at q
      simp only [Res.bind_ok, Res.ok.injEq] at q
      rw [← q.1, List.length_cons, hr.len _ _ _ _ e2]
end
/-- a def of the top keeps D -/
structure FnK (P : Program) (w : World) (K : PySem.W.Frag) (mg : Str → Option Value) (base : Heap) (k : Nat) (D : DF) (x : Str) (ps : List Str) : Prop where
  ok : ∃ fd, FnOk P w K mg base (L2.CX P w) k (He.ga K x) fd ps (spG K D ps.length) ∧ Binds K fd ps []
  glo : mg x = some (.ref (He.ga K x))
  keep : PySem.W.keepIn K (.ref (He.ga K x)) = true
section
variable {X : Cx} {W : WX}
theorem ge_fn {D : DF} {k n : Nat} {ps : List Str} {x : Str} {p pos : Pos} {e : Expr} {es : List Expr} {da : DenG (List Val)} (F : FnK X.prog X.w X.K X.mg X.base k D x ps) (hr : Room k X.A) (tk : Takes X W) (ha : GAN X W (e :: es) n da)
    (hn : n = ps.length := by rfl) (hg : Gl X x := by rfl) (hdb : (x == ("__debug__" : Str)) = false := by decide +kernel)
    (he : starEach (e :: es) X.env = (false, eval e X.env) :: starEach es X.env := by rfl) (hpl : (backTo pos (starEach es X.env)).any (·.1) = false := by rfl) : GE X W (.Call (.Name x p) (e :: es) [] pos) (dCall D da) := by
  obtain ⟨fd, F1, b⟩ := F.ok
  exact ge_call F1 hr tk F.glo F.keep b ha.ga (fun l h vs h' q => (ha.len l h vs h' q).trans hn) hg hdb he hpl
end
/-- the defs' promises -/
def AllK (P : Program) (w : World) (K : PySem.W.Frag) (mg : Str → Option Value) (base : Heap) (sig : List (Str × List Str)) (k : Nat) (Γ : Gam) : Prop := ∀ (j : Nat) (x : Str) (ps : List Str), sig[j]? = some (x, ps) → FnK P w K mg base k (Γ j) x ps
def lev (D : Gam → Gam) : Nat → Gam
  | 0 => fun _ _ _ => .fail
  | k + 1 => D (lev D k)
theorem levels {P : Program} {w : World} {K : PySem.W.Frag} {mg : Str → Option Value} {base : Heap} {sig : List (Str × List Str)} {D : Gam → Gam}
    (h0 : ∀ (j : Nat) (x : Str) (ps : List Str), sig[j]? = some (x, ps) → mg x = some (.ref (He.ga K x)) ∧ PySem.W.keepIn K (.ref (He.ga K x)) = true ∧ ∃ fd, Binds K fd ps [])
    (step : ∀ k Γ, AllK P w K mg base sig k Γ → ∀ (j : Nat) (x : Str) (ps : List Str), sig[j]? = some (x, ps) → FnK P w K mg base (k + 1) (D Γ j) x ps) : ∀ k, AllK P w K mg base sig k (lev D k)
  | 0 => fun j x ps e => by
    obtain ⟨g, kp, fd, b⟩ := h0 j x ps e
    refine ⟨⟨fd, ⟨fun vs H Q E h => h.1, fun A outer s H args us vs Q E hr he hb hv hs => ?_⟩, b⟩, g, kp⟩
    obtain ⟨_, _, _, _, _, _, z⟩ := hs
    exact z.elim
  | k + 1 => step k _ (levels h0 step k)
/-- what a law that answers True keeps -/
theorem sp_law {K : PySem.W.Frag} {D : DF} {H : Hp} {a : Addr} {ns : List Int} (hO : Only H) (hs : SqL K H a (ns.map V.int)) (hD : ∃ h', D [.fz (ns.map .int)] [] = .ok (.bl true) h') : spG K D 1 [.ref a] H (fun v _ => v = .bl true) fun _ _ _ => False := by
  obtain ⟨h', e⟩ := hD
  refine ⟨rfl, ⟨[], []⟩, [], [.fz (ns.map .int)], ⟨rfl, List.nodup_nil, fun a ha => absurd ha (by simp), fun a ha => absurd ha (by simp), fun i o a e1 e2 => by simp at e1⟩, ?_, ?_⟩
  · have hint : ∀ ns : List Int, VRs K ⟨[], []⟩ H (ns.map .int) (ns.map V.int) := by
      intro ns
      induction ns with
      | nil => exact VRs.nil
      | cons n ns ih => exact VRs.cons (by simp only [VR]) ih
    refine VRs.one ?_
    simp only [VR]
    refine ⟨a, _, rfl, ?_, hint ns⟩
    rcases hs with (hs | ⟨o, hs⟩) | hs
    · rcases hO a with q | ⟨o, xs, q⟩ <;> rw [q] at hs <;> cases hs
    · exact .inl ⟨o, hs⟩
    · exact .inr hs
  · rw [e]
    intro g' H' x E R r
    simpa only [VR] using r
end GH
set_option Elab.async false
set_option linter.all false
set_option maxRecDepth 100000
set_option maxHeartbeats 1000000
namespace PySem
open Sem (wp)
open AutoSeq1 (wpAny_loadPart')
set_option maxHeartbeats 1000000 in
theorem gh_enumerate_newT (l : Addr) (items : Array Value) (n : Nat) (dct : Option Addr) (sl : Array (Option Value)) :
    Meets (Builtin.«enumerate.__new__» ⟨[.type "enumerate", .ref l], []⟩) (fun _ R s => s.heap.get? l = some { cls := .type "tuple", dict := dct, data := .seq items n, slots := sl } ∧
      R (.ok (.ret (.ref (s.heap.push { cls := .type "tuple_iterator", data := .fields #[.ref l, .int 0 0] }).objs.size)))
        { s with heap := (s.heap.push { cls := .type "tuple_iterator", data := .fields #[.ref l, .int 0 0] }).push { cls := .type "enumerate", data := .fields #[.none, .bool false, .ref s.heap.objs.size, rawInt 0, .none, .none] } }) :=
  .of_wp fun prog w A R s h => by
    obtain ⟨hp, g, d, tk, os⟩ := s; obtain ⟨hl, h⟩ := h
    have hsub := sub_enumerate
    have hL : Heap.IsTuple (Shared.heap ⟨hp, g, d, tk, os⟩) l items := ⟨_, hl, rfl, n, rfl⟩
    wp_walk using wpAny_loadPart' hl
    refine wpAny_stack_any fun st => wpAny_pure ?_
    split
    · rename_i c _ _ _ _ _
      cases (c == Value.type "enumerate")
      · wp_walk using wpAny_loadPart' hl, wpAny_pyIter_tuple hL
        exact ⟨_, rfl, h⟩
      · wp_walk using wpAny_loadPart' hl, wpAny_pyIter_tuple hL
        exact ⟨_, rfl, h⟩
    · wp_walk using wpAny_loadPart' hl, wpAny_pyIter_tuple hL
      exact ⟨_, rfl, h⟩
section
variable {prog : Program} {w : World} {A : Around} {E : Value → Shared → Prop} {s : Shared}
theorem gh_call_enumerate_tuple {l : Addr} {items : Array Value} {Q : Value → Shared → Prop} (hL : s.heap.IsTuple l items)
    (h : ∀ h', IsEnum h' (s.heap.objs.size + 1) s.heap.objs.size 0 .none → h'.IsTupleIter s.heap.objs.size l 0 → h'.objs.size = s.heap.objs.size + 2 →
      (∀ b o, s.heap.get? b = some o → h'.get? b = some o) → Q (.ref (s.heap.objs.size + 1)) { s with heap := h' }) :
    wpAny (model prog w) A (call (.type "enumerate") [.ref l]) Q E s := by
  obtain ⟨⟨c, dct, dt, sl⟩, hl, hc, n, hd⟩ := hL
  replace hc : c = .type "tuple" := hc
  replace hd : dt = .seq items n := hd
  subst hc hd
  refine callType_new F.called_enumerate (by decide) (F.typeCall_enumerate_1 _) (F.newCall_enumerate_1 _) (fun obj => F.args_object_init_2 obj _) F.entry_enumerate_new
    (gh_enumerate_newT l items n dct sl) ⟨hl, ?_⟩
  have hz : (s.heap.push { cls := .type "tuple_iterator", data := .fields #[.ref l, .int 0 0] }).objs.size = s.heap.objs.size + 1 := Heap.size_push ..
  show _ ∧ _
  rw [hz]
  have he : IsEnum ((s.heap.push { cls := .type "tuple_iterator", data := .fields #[.ref l, .int 0 0] }).push
      { cls := .type "enumerate", data := .fields #[.none, .bool false, .ref s.heap.objs.size, rawInt 0, .none, .none] }) (s.heap.objs.size + 1) s.heap.objs.size 0 .none := by
    have := Heap.get?_push_size (s.heap.push { cls := .type "tuple_iterator", data := .fields #[.ref l, .int 0 0] })
      (o := { cls := .type "enumerate", data := .fields #[.none, .bool false, .ref s.heap.objs.size, rawInt 0, .none, .none] }) rfl
    rw [hz] at this; exact this
  exact ⟨⟨_, he, rfl⟩, h _ he ⟨_, Heap.get?_push_of_some _ (Heap.get?_push_size _ rfl), rfl, rfl⟩ (by rw [Heap.size_push, hz]) fun b o x => Heap.get?_push_of_some _ (Heap.get?_push_of_some _ x)⟩
end
end PySem
namespace GH
open PySem PySem.Spec PyProof.Rows L2
/-- the tuple at a, each item in a new pair -/
def IteT (K : PySem.W.Frag) (a : Addr) : It :=
  ⟨fun i H => ∃ (xs : List V) (x : V), SqT K H a xs ∧ xs[i]? = some x, fun i H v H' => ∃ T x, v = .ref T ∧ H T = none ∧ H' = upd H T (.tup [.int (i : Nat), x]) ∧ ∀ xs, SqT K H a xs → xs[i]? = some x, fun i H => ∃ xs : List V, SqT K H a xs ∧ xs.length ≤ i⟩
theorem turn_enumT {P : Program} {w : World} {K : PySem.W.Frag} {elts : List Expr} {kk : Nat} {tpos : Pos} (a e it : Addr) :
    Turn P w K (.Tuple elts kk tpos) (IteT K a) [e, it] e (fun i h => (∃ old, IsEnum h e it ((i : Nat) : Int) old) ∧ h.IsTupleIter it a i ∧ e ≠ it) where
  mem := by simp
  obj := fun i h st b hb => by
    obtain ⟨⟨old, he⟩, ⟨o, ho, hc, hd⟩, _⟩ := st
    have e' : b = e ∨ b = it := by simpa using hb
    rcases e' with z | z
    · rw [z]; exact ⟨_, he, fun v q => nomatch q⟩
    · rw [z]; exact ⟨o, ho, fun v q => by rw [hd] at q; cases q⟩
  keep := fun i h h' st k => let ⟨⟨old, he⟩, hi, hne⟩ := st; ⟨⟨old, k e (by simp) _ he⟩, hi.at fun o q => k it (by simp) o q, hne⟩
  item := by
    intro X hP hw hK hc i pins s σ H E I hf st hg
    subst hP hw hK
    obtain ⟨⟨old, he⟩, hit, hne⟩ := st
    obtain ⟨xs, x, hq, hx⟩ := hg
    obtain ⟨its, rv, p, hz⟩ := I.tuple hq
    obtain ⟨u, hu, ru⟩ := rv.get hx
    have p : s.heap.IsTuple a its.toArray := p
    have hel : e < s.heap.objs.size := Heap.lt_size he
    have hil : it < s.heap.objs.size := by obtain ⟨_, q, _⟩ := hit; exact Heap.lt_size q
    have nai : a ≠ it := by
      rintro rfl
      obtain ⟨o, ho, hc, _⟩ := hit
      obtain ⟨o2, ho2, hc2, _⟩ := p
      rw [ho] at ho2
      cases ho2
      rw [hc] at hc2
      exact absurd hc2 (by decide)
    have nae : e ∉ [it, a] := by
      intro z
      have z : e = it ∨ e = a := by simpa using z
      rcases z with z | rfl
      · exact hne z
      · obtain ⟨o2, ho2, hc2, _⟩ := p
        rw [he] at ho2
        cases ho2
        have hc2 : Value.type "enumerate" = Value.type "tuple" := hc2
        exact absurd hc2 (by decide)
    have D := Draws.tuple (prog := X.prog) (w := X.w) (A := X.A.in1) (I.ok.hd hc) it a nai its.toArray
    refine wpAny_pyNext_enum_itemD D he ⟨hit, p⟩ (by
      have := (List.getElem?_eq_some_iff.mp hu).1
      simpa using this) hne nae fun u' h' tk hP' ho hst' hT hsz hk => ?_
    obtain rfl : u = u' := by
      have : its[i]? = some u' := by simpa using hP'
      rw [hu] at this
      exact Option.some.inj this
    refine ⟨_, rfl, wpAny_letOwnedTupleGo_enum (s := { s with heap := h', toks := tk + 1 }) ho fun h'' he' sb => ?_⟩
    have hT2 : h''.get? s.heap.objs.size = some { cls := .type "tuple", data := .seq #[.int i tk, u] } := (sb.2 _ (Nat.ne_of_gt hel)).trans hT
    have new : ObjOk X.prog X.w (upd H s.heap.objs.size (.tup [.int (i : Nat), x])) h'' s.heap.objs.size (.tup [.int (i : Nat), x]) :=
      ⟨by show 2 ≤ sizeLine; decide, [.int i tk, u], .cons ⟨_, rfl⟩ (.cons ru .nil), ⟨_, hT2, rfl, _, rfl⟩⟩
    have I1 : Inv X pins σ (upd H s.heap.objs.size (.tup [.int (i : Nat), x])) { s with heap := h'', toks := tk + 1 } :=
      I.turnedNew (ch := [e, it]) (fun b ob hb q => (sb.2 b (fun z => hb (by simp [z]))).trans (hk b ob (fun z => hb (by simp [z])) (fun z => hb (by simp [z])) q)) hf (Nat.le_refl _) new
    refine ⟨.ref s.heap.objs.size, _, I1, rfl, ⟨_, x, rfl, I.hok.fresh (Nat.le_refl _), rfl, fun ys hy => by rw [I.tuple_inj hy hq]; exact hx⟩, ⟨⟨u, ?_⟩, hst'.1.at fun o q => (sb.2 it (Ne.symm hne)).trans q, hne⟩, fun b hb => ?_⟩
    · have e1 : ((i + 1 : Nat) : Int) = (i : Int) + 1 := by omega
      rw [e1]; exact he'
    · have hb' : b < s.heap.objs.size := by
        have e' : b = e ∨ b = it := by simpa using hb
        rcases e' with z | z
        · rw [z]; exact hel
        · rw [z]; exact hil
      rw [upd_ne (Nat.ne_of_lt hb')]
      exact (hf b hb).1
  done := by
    intro X hP hw hK hc i pins s σ H E I hf st hg
    subst hP hw hK
    obtain ⟨⟨old, he⟩, hit, hne⟩ := st
    obtain ⟨xs, hq, hx⟩ := hg
    obtain ⟨its, rv, p, hz⟩ := I.tuple hq
    have p : s.heap.IsTuple a its.toArray := p
    obtain ⟨f0, f1, f2, f3, f4, f5⟩ := hf it (by simp)
    have hl := rv.length
    have hT : s.TypeIs (.ref e) "enumerate" := ⟨_, he, rfl⟩
    unfold pyNext
    refine wpAny_bind (wpAny_attempt (wpAny_callSpecial?_slot (name := Str.ofString "__next__") hT F.slot_enumerate_next
      (wpAny_call_entry F.slot_enumerate_next hT F.entry_enumerate_next ?_ (F.args_enumerate_next_1 _))))
    show wpAny _ _ (field (.ref e) 2 >>= _) _ _ _
    refine wpAny_bind (wpAny_field he rfl (x := .ref it) rfl ?_)
    refine wpAny_bind (wpAny_nextOf_tuple_end (A := X.A.in1) (I.ok.hd hc) hit p (by simp; omega) fun h' x eb hx' => ?_)
    obtain ⟨o, ho, hc⟩ := hx'
    refine wpAny_bind (wpAny_isInstance (T := "StopIteration") (b := true) ⟨o, ho, hc⟩ isSubtype_stop ?_)
    exact wpAny_pure ⟨rfl, I.turned (t' := s.toks) (fun b o hb q => eb b o hb q) f0 f1 f3 f4 f5⟩
  self := fun A i s Q E st h => let ⟨⟨_, he⟩, _⟩ := st; wpAny_pyIter_enum he h
section
def enumL (l : List Val) : List Val := l.mapIdx fun i v => .tup [.int (i : Nat), v]
def vEnum (v : Val) (h : Hv) : Res Src := match v with
  | .tup l => .ok (enumL l, none) h
  | .lst l => .ok (enumL l, none) h
  | .fz l => .ok (enumL l, none) h
  | _ => .fail
def iEnumG (d : Den) : DenG Src := fun l h => (d l h).bind vEnum
variable {K : PySem.W.Frag} {g0 g : Gh} {H0 H : Hp}
theorem serves_pairs {J : It} {xs : List V} {l : List Val} {G : Hp → Prop} {h : Hv} (R0 : HR K g0 H0 h) (w : Walk J xs.length G (YPair (fun i => some (.int (i : Nat))) (fun i => xs[i]?))) (hG : ∀ g H, ExtS g0 H0 g H → G H) (r : VRs K g0 H0 l xs) :
    Serves K J g0 H0 (enumL l, none) :=
  serves_of (n := xs.length) (by simp [enumL, r.length]) fun g H h E R _ => ⟨_, _, w, hG g H E, fun i x H' v hv y => by
    obtain ⟨T, x1, y1, rfl, nT, rfl, e1, e2⟩ := y
    unfold enumL at hv
    rw [List.getElem?_mapIdx] at hv
    cases ez : l[i]? with
    | none => rw [ez] at hv; cases hv
    | some p =>
      rw [ez] at hv
      simp at hv
      subst hv
      obtain ⟨a2, b2, c2⟩ := r.get ez
      have e1 : some (V.int (i : Nat)) = some x1 := e1
      have e2 : xs[i]? = some y1 := e2
      rw [e2] at b2; cases b2
      cases e1
      obtain ⟨E4, R4⟩ := R.grow (o := .tup [.int (i : Nat), y1]) nT
      refine ⟨E4, R4, ?_⟩
      simp only [VR]
      exact ⟨T, _, rfl, SqT.of upd_same, VRs.cons (by simp only [VR]) (.one ((c2.extS R0 E).ext R E4))⟩⟩
theorem walk_enumT {a : Addr} {xs : List V} : Walk (IteT K a) xs.length (fun H => SqT K H a xs) (YPair (fun i => some (.int (i : Nat))) (fun i => xs[i]?)) :=
  ⟨fun i _ hi q => ⟨xs, xs[i], q, by simp [hi]⟩, fun _ q => ⟨xs, q, Nat.le_refl _⟩, fun i H x H' _ q y => by
    obtain ⟨T, z, e1, e2, e3, e4⟩ := y
    exact ⟨T, _, z, e1, e2, e3, rfl, e4 xs q⟩⟩
variable {X : Cx} {W : WX}
theorem gi_enum {e : Expr} {d : Den} {p pos tpos : Pos} {elts : List Expr} {kk : Nat} (he : GE X W e d) (hm : X.mg "enumerate" = none) (hg : Gl X "enumerate" := by rfl) (hs : starEach [e] X.env = (false, eval e X.env) :: starEach [] X.env := by rfl) (hs1 : starEach [e] X.env = [(false, eval e X.env)] := by rfl) :
    GI X W (.Tuple elts kk tpos) (.Call (.Name "enumerate" p) [e] [] pos) (iEnumG d) := by
  refine ⟨fun pins s σ H R I ⟨g, l, h, S, Rh, A⟩ => ?_⟩
  have start : tCons (tG X.K W (vr X.K) d) tNil σ H fun vs H1 => ∃ x v h1 g1, vs = [x] ∧ HR X.K g1 H1 h1 ∧ VR X.K g1 H1 v x ∧ AfterI X.K W σ g1 H1 R (vEnum v h1) :=
    tG_I S Rh A fun v h1 g1 H1 x E S1 R1 r1 A1 => ⟨x, v, h1, g1, rfl, R1, r1, A1⟩
  refine Call_ (ld_blt I hg hm boot_enumerate (PyProof.Rows.callWith_type1 (thn ((pa_cons he pa_nil hs).run pos pins s σ H _ I start) fun us s1 ⟨vs, H1, I1, r1, q1⟩ => ?_) hs1 rfl))
  obtain ⟨x, v, h1, g1, rfl, R1, rv, A1⟩ := q1
  cases r1 with
  | cons r rr =>
    cases rr
    have fp : ∀ b ∈ [s1.heap.objs.size + 1, s1.heap.objs.size], FpOk X pins H1 b := fun b hb => by
      have e' : b = s1.heap.objs.size + 1 ∨ b = s1.heap.objs.size := by simpa using hb
      have hle : s1.heap.objs.size ≤ b := by
        rcases e' with z | z
        · rw [z]; exact Nat.le_add_right _ _
        · rw [z]; exact Nat.le_refl _
      exact I1.fpOk hle (I1.hok.fresh hle)
    cases v with
    | tup items =>
      simp only [VR] at rv
      obtain ⟨a, xs, rfl, hq, rs⟩ := rv
      cases r
      obtain ⟨its, rv, p', hz⟩ := I1.tuple hq
      refine PySem.gh_call_enumerate_tuple (show s1.heap.IsTuple a its.toArray from p') fun h' he hit hsz hk => wpAny_pyIter_enum he ?_
      have I2 : Inv X pins σ H1 { s1 with heap := h' } := I1.kept (t' := s1.toks) hk
      exact ⟨s1.heap.objs.size + 1, [s1.heap.objs.size + 1, s1.heap.objs.size], _, _, H1, rfl, I2, turn_enumT a (s1.heap.objs.size + 1) s1.heap.objs.size, ⟨⟨.none, he⟩, hit, Nat.succ_ne_self _⟩, fp,
        A1.2 g1 H1 _ Ext.refl R1 (by simp only [enumL, List.length_mapIdx, rs.length]; exact hz) (serves_pairs R1 walk_enumT (fun g H E => sqT_ext R1 E hq) rs)⟩
    | lst items =>
      simp only [VR] at rv
      obtain ⟨a, xs, rfl, na, hq, rs⟩ := rv
      cases r
      obtain ⟨its, rv, p', hz⟩ := I1.list (SqL.of hq)
      refine call_enumerate_list p'.isList fun h' he hit hsz hk => wpAny_pyIter_enum he ?_
      have I2 : Inv X pins σ H1 { s1 with heap := h' } := I1.kept (t' := s1.toks) hk
      exact ⟨s1.heap.objs.size + 1, [s1.heap.objs.size + 1, s1.heap.objs.size], _, _, H1, rfl, I2, turn_enum a (s1.heap.objs.size + 1) s1.heap.objs.size, ⟨⟨.none, he⟩, hit, Nat.succ_ne_self _⟩, fp,
        A1.2 g1 H1 _ Ext.refl R1 (by simp only [enumL, List.length_mapIdx, rs.length]; exact hz) (serves_pairs R1 walk_enum (fun g H E => sqL_ext R1 E na (SqL.of hq)) rs)⟩
    | fz items =>
      simp only [VR] at rv
      obtain ⟨a, xs, rfl, hq, rs⟩ := rv
      cases r
      obtain ⟨its, rv, p', hz⟩ := I1.list hq.sq
      refine call_enumerate_list p'.isList fun h' he hit hsz hk => wpAny_pyIter_enum he ?_
      have I2 : Inv X pins σ H1 { s1 with heap := h' } := I1.kept (t' := s1.toks) hk
      exact ⟨s1.heap.objs.size + 1, [s1.heap.objs.size + 1, s1.heap.objs.size], _, _, H1, rfl, I2, turn_enum a (s1.heap.objs.size + 1) s1.heap.objs.size, ⟨⟨.none, he⟩, hit, Nat.succ_ne_self _⟩, fp,
        A1.2 g1 H1 _ Ext.refl R1 (by simp only [enumL, List.length_mapIdx, rs.length]; exact hz) (serves_pairs R1 walk_enum (fun g H E => (hq.imp fun o s => E.keep _ _ s (R1.not_own s fun z => z)).sq) rs)⟩
    | _ => exact A1.elim
end
/-! ### a, b = x, y -/
section
variable {X : Cx} {W : WX}
def sPar (i j : Nat) (d : DenG (List Val)) : Stm := fun l h => (d l h).to l fun vs h1 => match vs with
  | [v, w] => .nx ((l.set i (some v)).set j (some w)) h1
  | _ => .fail
theorem gs_par (i j : Nat) {x y : Str} {a b : Expr} {d : DenG (List Val)} {px py pt pos : Pos} {kt k2 pt2} (hc : X.calm = true) (hN : X.N.Nodup) (ha : GA X W [a, b] d) (hi : X.N[i]? = some x := by rfl) (hj : X.N[j]? = some y := by rfl) (hij : i ≠ j := by decide)
    (hx : X.env.scope.names.lookup x = some .local := by rfl) (hy : X.env.scope.names.lookup y = some .local := by rfl)
    (hw : swappedStores [.Tuple [.Name x px, .Name y py] kt pt] (.Tuple [a, b] k2 pt2) X.env = pure (some [x, y]) := by rfl)
    (hs : swapsWithSole [.Tuple [.Name x px, .Name y py] kt pt] (.Tuple [a, b] k2 pt2) pos.line X.env = pure false := by rfl) :
    GS X W (.Assign [.Tuple [.Name x px, .Name y py] kt pt] (.Tuple [a, b] k2 pt2) pos) (sPar i j d) := by
  refine PS.imp (ps_par hc hN hi hj hij hx hy ha hw hs) fun D σ H ⟨g, l, h, S, R, A⟩ => ?_
  refine tG_to S R A fun vs h1 g1 H1 xs E S1 R1 r1 A1 => ?_
  split at A1
  · rename_i v w
    have r1 : VRs X.K g1 H1 [v, w] xs := r1
    simp only [VRs] at r1
    obtain ⟨x1, _, rfl, rx, x2, _, rfl, ry, rfl⟩ := r1
    exact ⟨x1, x2, rfl, A1 g1 H1 _ Ext.refl R1 ((S1.set i rx).set j ry)⟩
  · exact A1.elim
end
end GH
set_option Elab.async false
set_option linter.all false
set_option autoImplicit false
namespace GH
open PySem PySem.Spec PyProof.Rows L2
def CXA (P : Program) : CXT := fun outer H s E u s' => ∃ w, L2.CX P w outer H s E u s'
theorem cxa_none {P : Program} (H : Hp) (s : Shared) (e : Value) (s' : Shared) (h : CXA P [] H s (fun _ _ _ => False) e s') : False := by
  obtain ⟨w, h⟩ := h
  obtain ⟨_, _, _, _, _, _, _, _, _, _, _, _, z⟩ := h
  exact z
theorem fn_cxa {P : Program} {w : World} {K : PySem.W.Frag} {mg : Str → Option Value} {base : Heap} {k : Nat} {f : Addr} {fd : FuncData} {ps : List Str} {sp : Sp} (F : FnOk P w K mg base (L2.CX P w) k f fd ps sp) : FnOk P w K mg base (CXA P) k f fd ps sp :=
  ⟨F.len, fun A outer s H args us vs Q E hr he hb hv hs => PySem.codeAny_mono (F.run A outer s H args us vs Q E hr he hb hv hs) fun r s' c => by
    unfold CR at c ⊢
    split at c
    · exact c
    · exact c
    · exact ⟨w, c⟩⟩
theorem glo_of {K : PySem.W.Frag} {mg : Str → Option Value} {base : Heap} (X : K.In base) (G : base.Ns mainGlobals mg) {x : Str} (c : (He.Fa.glo x).ok K = true) : mg x = some (.ref (He.ga K x)) := He.glo_ok X G c
end GH
set_option Elab.async false
set_option linter.all false
set_option maxRecDepth 100000
set_option maxHeartbeats 1000000
set_option autoImplicit false
/-! Plain reasoning about the functions. -/
namespace GH
open PySem
/-! ### what holds behind -/
def ok {α : Type} (r : Res α) (P : α → Hv → Prop) : Prop := match r with
  | .ok v h => P v h
  | _ => False
@[simp] theorem ok_ok {α : Type} (v : α) (h : Hv) (P : α → Hv → Prop) : ok (.ok v h) P = P v h := rfl
@[simp] theorem ok_fail {α : Type} (P : α → Hv → Prop) : ok (.fail : Res α) P = False := rfl
@[simp] theorem ok_exc {α : Type} (e : Ex) (h : Hv) (P : α → Hv → Prop) : ok (.exc e h : Res α) P = False := rfl
@[simp] theorem ok_bind {α β : Type} (r : Res α) (k : α → Hv → Res β) (P : β → Hv → Prop) : ok (r.bind k) P = ok r fun v h => ok (k v h) P := by
  cases r <;> rfl
theorem ok_imp {α : Type} {r : Res α} {P Q : α → Hv → Prop} (h : ok r P) (i : ∀ v h, P v h → Q v h) : ok r Q := by
  cases r with
  | ok v h1 => exact i _ _ h
  | exc e h1 => exact h
  | fail => exact h
theorem ok_eq {α : Type} {r : Res α} {P : α → Hv → Prop} (h : ok r P) : ∃ v h', r = .ok v h' ∧ P v h' := by
  cases r with
  | ok v h1 => exact ⟨v, h1, rfl, h⟩
  | exc e h1 => exact h.elim
  | fail => exact h.elim
theorem ok_ite {α : Type} {c : Prop} [Decidable c] {a b : Res α} {P : α → Hv → Prop} : ok (if c then a else b) P ↔ (c → ok a P) ∧ (¬c → ok b P) := by
  by_cases h : c <;> simp [h]
structure Post where
  nx : Loc → Hv → Prop := fun _ _ => False
  rt : Val → Hv → Prop := fun _ _ => False
  bk : Loc → Hv → Prop := fun _ _ => False
  ct : Loc → Hv → Prop := fun _ _ => False
def sok (r : SRes) (P : Post) : Prop := match r with
  | .nx l h => P.nx l h
  | .rt v h => P.rt v h
  | .bk l h => P.bk l h
  | .ct l h => P.ct l h
  | _ => False
@[simp] theorem sok_nx (l : Loc) (h : Hv) (P : Post) : sok (.nx l h) P = P.nx l h := rfl
@[simp] theorem sok_rt (v : Val) (h : Hv) (P : Post) : sok (.rt v h) P = P.rt v h := rfl
@[simp] theorem sok_bk (l : Loc) (h : Hv) (P : Post) : sok (.bk l h) P = P.bk l h := rfl
@[simp] theorem sok_ct (l : Loc) (h : Hv) (P : Post) : sok (.ct l h) P = P.ct l h := rfl
@[simp] theorem sok_fail (P : Post) : sok .fail P = False := rfl
@[simp] theorem sok_exc (e : Ex) (l : Loc) (h : Hv) (P : Post) : sok (.exc e l h) P = False := rfl
@[simp] theorem sok_to {α : Type} (r : Res α) (l : Loc) (k : α → Hv → SRes) (P : Post) : sok (r.to l k) P = ok r fun v h => sok (k v h) P := by
  cases r <;> rfl
@[simp] theorem sok_then (r : SRes) (k : Stm) (P : Post) : sok (r.andThen k) P = sok r { P with nx := fun l h => sok (k l h) P } := by
  cases r <;> rfl
@[simp] theorem sok_turn (r : SRes) (k : Stm) (P : Post) : sok (r.turn k) P = sok r { P with nx := fun l h => sok (k l h) P, ct := fun l h => sok (k l h) P, bk := P.nx } := by
  cases r <;> rfl
theorem sok_ite {c : Prop} [Decidable c] {a b : SRes} {P : Post} : sok (if c then a else b) P ↔ (c → sok a P) ∧ (¬c → sok b P) := by
  by_cases h : c <;> simp [h]
theorem sok_imp {r : SRes} {P Q : Post} (h : sok r P) (n : ∀ l h, P.nx l h → Q.nx l h) (t : ∀ v h, P.rt v h → Q.rt v h) (b : ∀ l h, P.bk l h → Q.bk l h) (c : ∀ l h, P.ct l h → Q.ct l h) : sok r Q := by
  cases r with
  | nx l h1 => exact n _ _ h
  | rt v h1 => exact t _ _ h
  | bk l h1 => exact b _ _ h
  | ct l h1 => exact c _ _ h
  | exc e l h1 => exact h.elim
  | fail => exact h.elim
@[simp] theorem ok_run (n : Nat) (b : Stm) (args : List Val) (h : Hv) (P : Val → Hv → Prop) : ok (runDef n b args h) P = sok (b (args.map some ++ List.replicate (n - args.length) none) h) { nx := fun _ h => P .non h, rt := P } := by
  unfold runDef
  cases b (args.map some ++ List.replicate (n - args.length) none) h <;> rfl
def tok (r : TRes) (P : Loc → Hv → Prop) : Prop := match r with
  | .ok l h => P l h
  | _ => False
@[simp] theorem sok_s (r : TRes) (P : Post) : sok r.s P = tok r P.nx := by cases r <;> rfl
@[simp] theorem tok_ok (l : Loc) (h : Hv) (P : Loc → Hv → Prop) : tok (.ok l h) P = P l h := rfl
@[simp] theorem tok_fail (P : Loc → Hv → Prop) : tok .fail P = False := rfl
@[simp] theorem tok_toT {α : Type} (r : Res α) (l : Loc) (k : α → Hv → TRes) (P : Loc → Hv → Prop) : tok (r.toT l k) P = ok r fun v h => tok (k v h) P := by cases r <;> rfl
@[simp] theorem tok_bind (r : TRes) (k : Loc → Hv → TRes) (P : Loc → Hv → Prop) : tok (r.bind k) P = tok r fun l h => tok (k l h) P := by cases r <;> rfl

/-! ### the combinators, read at a state -/
section
variable (l : Loc) (h : Hv)
@[simp] theorem e_seq (a b : Stm) : sSeq a b l h = (a l h).andThen b := rfl
@[simp] theorem e_next : sNext l h = .nx l h := rfl
@[simp] theorem e_ret (d : Den) : sRet d l h = (d l h).to l .rt := rfl
@[simp] theorem e_retN : sRetN l h = .rt .non h := rfl
@[simp] theorem e_expr (d : Den) : sExpr d l h = (d l h).to l fun _ h1 => .nx l h1 := rfl
@[simp] theorem e_if (c : DenG Bool) (a b : Stm) : sIf c a b l h = (c l h).to l fun t h1 => if t then a l h1 else b l h1 := rfl
@[simp] theorem e_break : sBreak l h = .bk l h := rfl
@[simp] theorem e_cont : sCont l h = .ct l h := rfl
@[simp] theorem e_asg (d : Den) (t : Tg) : sAsg d t l h = (d l h).to l fun v h1 => (t v l h1).s := rfl
@[simp] theorem e_name (i : Nat) (v : Val) : gName i v l h = .ok (l.set i (some v)) h := rfl
@[simp] theorem e_for (di : DenG Src) (t : Tg) (b : Stm) : sFor di t b l h = (di l h).to l fun s h1 => forL t b s s.1 l h1 := rfl
@[simp] theorem e_c (v : Val) : dC v l h = .ok v h := rfl
@[simp] theorem e_nil : dNil l h = .ok [] h := rfl
@[simp] theorem e_cons (d : Den) (r : DenG (List Val)) : dCons d r l h = (d l h).bind fun v h1 => (r l h1).bind fun vs h2 => .ok (v :: vs) h2 := rfl
@[simp] theorem e_tup (r : DenG (List Val)) : dTup r l h = (r l h).bind mkTup := rfl
@[simp] theorem e_lst (r : DenG (List Val)) : dLst r l h = (r l h).bind mkLst := rfl
@[simp] theorem e_lstM (r : DenG (List Val)) : dLstM r l h = (r l h).bind mkRef := rfl
@[simp] theorem e_bin (f : Val → Val → Hv → Res Val) (a b : Den) : dBin f a b l h = (a l h).bind fun v h1 => (b l h1).bind fun u h2 => f v u h2 := rfl
@[simp] theorem e_b (d : Den) : dB d l h = resB (d l h) := rfl
@[simp] theorem e_and (a b : DenG Bool) : dAnd a b l h = (a l h).bind fun c h1 => if c then b l h1 else .ok false h1 := rfl
@[simp] theorem e_or (a b : DenG Bool) : dOr a b l h = (a l h).bind fun c h1 => if c then .ok true h1 else b l h1 := rfl
@[simp] theorem e_not (a : DenG Bool) : dNot a l h = (a l h).bind fun c h1 => .ok (!c) h1 := rfl
@[simp] theorem e_dif (c : DenG Bool) (a b : Den) : dIf c a b l h = (c l h).bind fun t h1 => if t then a l h1 else b l h1 := rfl
@[simp] theorem e_call (D : DF) (r : DenG (List Val)) : dCall D r l h = (r l h).bind fun vs h1 => D vs h1 := rfl
@[simp] theorem e_fn (f : Val → Hv → Res Val) (d : Den) : dFn f d l h = (d l h).bind f := rfl
@[simp] theorem e_len (d : Den) : dLen d l h = (d l h).bind vLen := rfl
@[simp] theorem e_tru (d : Den) : dTru d l h = (d l h).bind vTru := rfl
@[simp] theorem e_iseq (d : Den) : iSeq d l h = (d l h).bind vIter := rfl
@[simp] theorem e_rng1 (d : Den) : iRange1 d l h = (d l h).bind vRange1 := rfl
@[simp] theorem e_rng2 (a b : Den) : iRange2 a b l h = (a l h).bind fun v h1 => (b l h1).bind fun u h2 => vRange2 v u h2 := rfl
@[simp] theorem e_enum (d : Den) : iEnumG d l h = (d l h).bind vEnum := rfl
@[simp] theorem e_yes : dYes l h = .ok true h := rfl
@[simp] theorem e_cut (d : Den) (lo hi : DO) : dCut d lo hi l h = (d l h).bind fun v h1 => (lo l h1).bind fun a h2 => (hi l h2).bind fun b h3 => vCut v a b h3 := rfl
@[simp] theorem e_onone : oNone l h = .ok none h := rfl
@[simp] theorem e_newd : dNewD l h = .ok (.ref h.length) (h ++ [.dic []]) := rfl
@[simp] theorem e_meth1 (p : Hv → Val → Bool) (f : Val → Val → Hv → Res Val) (o e : Den) : dMeth1 p f o e l h = (o l h).bind fun x h1 => if p h1 x = true then (e l h1).bind fun v h2 => f x v h2 else .fail := rfl
@[simp] theorem e_meth0 (p : Hv → Val → Bool) (f : Val → Hv → Res Val) (o : Den) : dMeth0 p f o l h = (o l h).bind fun x h1 => if p h1 x = true then f x h1 else .fail := rfl
@[simp] theorem e_sub (o i : Den) (v : Val) : gSub o i v l h = (o l h).toT l fun x h1 => (i l h1).toT l fun y h2 => match vSet x y v h2 with
  | some h3 => .ok l h3
  | none => .fail := rfl
end
/-- one statement, what holds behind it, the rest -/
theorem sok_seq {a b : Stm} {l : Loc} {h : Hv} {P : Post} (R : Loc → Hv → Prop) (h1 : sok (a l h) { P with nx := R }) (h2 : ∀ l h, R l h → sok (b l h) P) : sok (sSeq a b l h) P := by
  rw [e_seq, sok_then]
  exact sok_imp h1 (fun l h r => h2 l h r) (fun _ _ z => z) (fun _ _ z => z) (fun _ _ z => z)
theorem ok_resB {r : Res Val} {P : Bool → Hv → Prop} (k : ok r fun v h => ∃ b, v = .bl b ∧ P b h) : ok (resB r) P := by
  cases r with
  | ok v h =>
    obtain ⟨b, rfl, p⟩ := k
    exact p
  | exc e h => exact k.elim
  | fail => exact k.elim
@[simp] theorem resB_bl (b : Bool) (h : Hv) : resB (.ok (.bl b) h) = .ok b h := rfl
@[simp] theorem vTru_bl (b : Bool) (h : Hv) : vTru (.bl b) h = .ok b h := rfl
@[simp] theorem ok_resB_eq {r : Res Val} {P : Bool → Hv → Prop} : ok (resB r) P = ok r fun v h => match v with
  | .bl b => P b h
  | _ => False := by
  cases r with
  | ok v h => cases v <;> rfl
  | exc e h => rfl
  | fail => rfl
/-- a loop over items, an invariant over what is left -/
theorem forL_inv {t : Tg} {b : Stm} {s : Src} {P : Post} (I : List Val → Loc → Hv → Prop)
    (step : ∀ x r l h, I (x :: r) l h → srcOk s h ∧ tok (t x l h) fun l1 h1 => sok (b l1 h1) { nx := fun l2 h2 => I r l2 h2, ct := fun l2 h2 => I r l2 h2, bk := P.nx, rt := P.rt })
    (done : ∀ l h, I [] l h → srcOk s h ∧ P.nx l h) : ∀ (items : List Val) (l : Loc) (h : Hv), I items l h → sok (forL t b s items l h) P
  | [], l, h, i => by
    obtain ⟨a, q⟩ := done l h i
    simp only [forL, if_pos a, sok_nx]
    exact q
  | x :: r, l, h, i => by
    obtain ⟨a, q⟩ := step x r l h i
    simp only [forL, if_pos a]
    cases e : t x l h with
    | ok l1 h1 =>
      rw [e] at q
      simp only [tok_ok] at q
      simp only [sok_turn]
      exact sok_imp q (fun l2 h2 i2 => forL_inv I step done r l2 h2 i2) (fun _ _ z => z) (fun _ _ z => z) (fun l2 h2 i2 => forL_inv I step done r l2 h2 i2)
    | exc x1 l1 h1 => rw [e] at q; exact q.elim
    | fail => rw [e] at q; exact q.elim
/-- a comprehension's items, an invariant -/
theorem lcL_inv {t : Tg} {c : DenG Bool} {e : Den} {s : Src} {P : List Val → Hv → Prop} (I : List Val → List Val → Hv → Prop) {l : Loc}
    (step : ∀ x r acc h, I (x :: r) acc h → srcOk s h ∧ tok (t x l h) fun l1 h1 => ok (c l1 h1) fun b h2 => if b then ok (e l1 h2) fun v h3 => I r (acc ++ [v]) h3 else I r acc h2)
    (done : ∀ acc h, I [] acc h → srcOk s h ∧ P acc h) : ∀ (items acc : List Val) (h : Hv), I items acc h → ok (lcL t c e s items acc l h) P
  | [], acc, h, i => by
    obtain ⟨a, q⟩ := done acc h i
    simp only [lcL, if_pos a, ok_ok]
    exact q
  | x :: r, acc, h, i => by
    obtain ⟨a, q⟩ := step x r acc h i
    simp only [lcL, if_pos a]
    cases et : t x l h with
    | ok l1 h1 =>
      rw [et] at q
      simp only [tok_ok] at q
      dsimp only
      cases ec : c l1 h1 with
      | ok b h2 =>
        rw [ec] at q
        simp only [ok_ok] at q
        dsimp only
        cases b with
        | true =>
          simp only [if_true] at q ⊢
          cases ee : e l1 h2 with
          | ok v h3 =>
            rw [ee] at q
            exact lcL_inv I step done r (acc ++ [v]) h3 q
          | exc x1 h3 => rw [ee] at q; exact q.elim
          | fail => rw [ee] at q; exact q.elim
        | false => exact lcL_inv I step done r acc h2 (by simpa using q)
      | exc x1 h2 => rw [ec] at q; exact q.elim
      | fail => rw [ec] at q; exact q.elim
    | exc x1 l1 h1 => rw [et] at q; exact q.elim
    | fail => rw [et] at q; exact q.elim
@[simp] theorem ok_dLc {fin : List Val → Hv → Res Val} {vs : List Nat} {di : DenG Src} {t : Tg} {c : DenG Bool} {e : Den} {l : Loc} {h : Hv} {P : Val → Hv → Prop} :
    ok (dLc fin vs di t c e l h) P = ok (di l h) fun s h1 => ok (lcL t c e s s.1 [] (wipeL l vs) h1) fun ys h2 => ok (fin ys h2) P := by
  simp only [dLc, ok_bind]
@[simp] theorem ok_frozen (ys : List Val) (h : Hv) (P : Val → Hv → Prop) : ok (frozen ys h) P = P (.lst ys) h := rfl
@[simp] theorem ok_ours (ys : List Val) (h : Hv) (P : Val → Hv → Prop) : ok (ours ys h) P = P (.ref h.length) (h ++ [.lst ys]) := rfl
/-- a comprehension that draws nothing: map and filter -/
theorem lc_pure {t : Tg} {c : DenG Bool} {e : Den} {s : Src} {l : Loc} {h : Hv} {P : List Val → Hv → Prop} (f : Val → Bool) (g : Val → Val) (hs : srcOk s h)
    (step : ∀ x ∈ s.1, tok (t x l h) fun l1 h1 => h1 = h ∧ c l1 h = .ok (f x) h ∧ (f x = true → e l1 h = .ok (g x) h)) (done : P ((s.1.filter f).map g) h) : ok (lcL t c e s s.1 [] l h) P := by
  have gen : ∀ (items acc : List Val), (∀ x ∈ items, x ∈ s.1) → ok (lcL t c e s items acc l h) fun ys h2 => h2 = h ∧ ys = acc ++ (items.filter f).map g := by
    intro items
    induction items with
    | nil => intro acc _; simp only [lcL, if_pos hs, ok_ok]; simp
    | cons x r ih =>
      intro acc hm
      have q := step x (hm x (List.mem_cons_self ..))
      simp only [lcL, if_pos hs]
      cases et : t x l h with
      | ok l1 h1 =>
        rw [et] at q
        obtain ⟨rfl, q1, q2⟩ := q
        dsimp only
        rw [q1]
        dsimp only
        cases ef : f x with
        | true =>
          simp only [if_true]
          rw [q2 ef]
          dsimp only
          refine ok_imp (ih (acc ++ [g x]) fun y hy => hm y (List.mem_cons_of_mem _ hy)) fun v h2 z => ⟨z.1, ?_⟩
          rw [z.2]; simp [ef]
        | false =>
          refine ok_imp (ih acc fun y hy => hm y (List.mem_cons_of_mem _ hy)) fun v h2 z => ⟨z.1, ?_⟩
          rw [z.2]; simp [ef]
      | exc x1 l1 h1 => rw [et] at q; exact q.elim
      | fail => rw [et] at q; exact q.elim
  refine ok_imp (gen s.1 [] fun x hx => hx) fun v h2 z => ?_
  obtain ⟨rfl, rfl⟩ := z
  simpa using done

/-! ### tidy -/
theorem frzs_self {f : Nat → Option Val} : ∀ {v : Val}, okV v = true → frz f v = some v := by
  intro v
  exact Val.rec (motive_1 := fun v => okV v = true → frz f v = some v) (motive_2 := fun l => okVs l = true → frzs f l = some l)
    (fun _ => rfl) (fun _ _ => rfl) (fun _ _ => rfl) (fun _ _ => rfl)
    (fun l ih o => by simp only [okV] at o; simp only [frz, ih o, Option.map_some])
    (fun l ih o => by simp only [okV] at o; simp only [frz, ih o, Option.map_some])
    (fun l ih o => by simp only [okV] at o; simp only [frz, ih o, Option.map_some])
    (fun i o => by cases o)
    (fun _ => rfl) (fun v l i1 i2 o => by
      simp only [okVs, Bool.and_eq_true] at o
      simp only [frzs, i1 o.1, i2 o.2, Option.bind_some, Option.map_some]) v
theorem frzs_list {f : Nat → Option Val} : ∀ {l : List Val}, okVs l = true → frzs f l = some l
  | [], _ => rfl
  | v :: l, o => by
    simp only [okVs, Bool.and_eq_true] at o
    simp only [frzs, frzs_self o.1, frzs_list o.2, Option.bind_some, Option.map_some]
theorem kept_app (h g : Hv) : kept h.length h (h ++ g) := ⟨by simp, fun i hi => .inl (List.getElem?_append_left hi)⟩
theorem tidy_app {r : Res Val} {h : Hv} {P : Val → Hv → Prop} (k : ok r fun v h' => (∃ g, h' = h ++ g) ∧ okV v = true ∧ P v h) : ok (tidy r h) P := by
  obtain ⟨v, h', rfl, ⟨g, rfl⟩, o, p⟩ := ok_eq k
  unfold tidy
  dsimp only
  rw [if_pos (kept_app h g), frzs_self o]
  simpa using p
theorem tidy_lst {r : Res Val} {h : Hv} {P : Val → Hv → Prop} (k : ok r fun v h' => ∃ g i l, h' = h ++ g ∧ v = .ref i ∧ h.length ≤ i ∧ h'[i]? = some (.lst l) ∧ okVs l = true ∧ P (.lst l) h) : ok (tidy r h) P := by
  obtain ⟨v, h', rfl, g, i, l, rfl, rfl, hi, hl, o, p⟩ := ok_eq k
  unfold tidy
  dsimp only
  rw [if_pos (kept_app h g)]
  have : frz (frzN (h ++ g) h.length (h ++ g).length) (.ref i) = some (.lst l) := by
    have hn : (h ++ g).length = ((h ++ g).length - 1) + 1 := by
      have := (List.getElem?_eq_some_iff.mp hl).1
      omega
    rw [hn]
    simp only [frz, frzN]
    rw [if_neg (by omega), hl]
    simp only [frzs_list o, Option.map_some]
  rw [this]
  simpa using p
end GH
set_option Elab.async false
set_option linter.all false
set_option maxRecDepth 100000
set_option maxHeartbeats 1000000
set_option autoImplicit false
/-! Values compared; the tape. -/
namespace GH
open PySem
theorem nrfl {α : Type} {a b : α} (h : a = b) : a = b := h
abbrev sv (s : List Nat) : Val := .str s
/-- a tuple of ints -/
abbrev pv (p : List Int) : Val := .tup (p.map .int)
theorem okVs_ints (p : List Int) : okVs (p.map .int) = true := by
  induction p with
  | nil => rfl
  | cons a p ih => simp only [List.map_cons, okVs, okV, ih, Bool.and_self]
theorem dpVs_ints (p : List Int) : dpVs (p.map .int) = 0 := by
  induction p with
  | nil => rfl
  | cons a p ih => simp only [List.map_cons, dpVs, dpV, ih]; rfl
@[simp] theorem okV_pv (p : List Int) : okV (pv p) = true := by simp only [okV, okVs_ints]
@[simp] theorem dpV_pv (p : List Int) : dpV (pv p) = 1 := by simp only [dpV, dpVs_ints]
theorem eqv_ints : ∀ p q : List Int, PyData.eqvAll (pds (p.map .int)) (pds (q.map .int)) = decide (p = q)
  | [], [] => rfl
  | [], _ :: _ => rfl
  | _ :: _, [] => rfl
  | a :: p, b :: q => by
    simp only [List.map_cons, pds, pd, PyData.eqvAll, PyData.eqv, eqv_ints p q]
    by_cases h1 : a = b <;> by_cases h2 : p = q <;> simp [h1, h2]
@[simp] theorem veq_pv (p q : List Int) : veq (pv p) (pv q) = decide (p = q) := by
  simp only [veq, pd, PyData.eqv, eqv_ints]
@[simp] theorem veq_str (a b : List Nat) : veq (.str a) (.str b) = decide (a = b) := by
  simp only [veq, pd, PyData.eqv]
  by_cases h : a = b
  · subst h; simp
  · have : sOf a ≠ sOf b := fun e => h (sOf_inj e)
    simp [h, this]
@[simp] theorem veq_int (a b : Int) : veq (.int a) (.int b) = decide (a = b) := by
  simp only [veq, pd, PyData.eqv]
  by_cases h : a = b <;> simp [h]
@[simp] theorem veq_bl (a b : Bool) : veq (.bl a) (.bl b) = decide (a = b) := by
  simp only [veq, pd, PyData.eqv]
  cases a <;> cases b <;> rfl
theorem okVs_pvs (s : List (List Int)) : okVs (s.map pv) = true := by
  induction s with
  | nil => rfl
  | cons a p ih => simp only [List.map_cons, okVs, okV_pv, ih, Bool.and_self]
theorem dpVs_pvs (s : List (List Int)) : dpVs (s.map pv) ≤ 1 := by
  induction s with
  | nil => exact Nat.zero_le _
  | cons a p ih => simp only [List.map_cons, dpVs, dpV_pv]; omega
/-- a tuple, a list of tuples of ints -/
abbrev tv (s : List (List Int)) : Val := .tup (s.map pv)
theorem okVs_append {a b : List Val} : okVs (a ++ b) = (okVs a && okVs b) := by
  induction a with
  | nil => simp [okVs]
  | cons x a ih => simp only [List.cons_append, okVs, ih, Bool.and_assoc]
@[simp] theorem okV_tv (s : List (List Int)) : okV (tv s) = true := by simp only [okV, okVs_pvs]
theorem inSeq_pv (p : List Int) (s : List (List Int)) : inSeq (pv p) (s.map pv) = decide (p ∈ s) := by
  unfold inSeq
  induction s with
  | nil => rfl
  | cons a s ih =>
    simp only [List.map_cons, List.any_cons, ih, veq_pv]
    by_cases h1 : a = p <;> by_cases h2 : p ∈ s <;> simp [h1, h2, eq_comm]
    intro e; exact absurd e.symm h1
theorem inOk_pv (p : List Int) (s : List (List Int)) : inOk (pv p) (s.map pv) = true := by
  have := dpVs_pvs s
  simp only [inOk, okV_pv, okVs_pvs, Bool.and_self, Bool.true_and, decide_eq_true_eq]
  omega
@[simp] theorem vIn_pv (p : List Int) (s : List (List Int)) (h : Hv) : vIn (pv p) (tv s) h = .ok (.bl (decide (p ∈ s))) h := by
  simp only [vIn, isIn, seqOf, thaw, inOk_pv, if_true, inSeq_pv, Res.bind_ok]
@[simp] theorem vNotIn_pv (p : List Int) (s : List (List Int)) (h : Hv) : vNotIn (pv p) (tv s) h = .ok (.bl (!decide (p ∈ s))) h := by
  simp only [vNotIn, isIn, seqOf, thaw, inOk_pv, if_true, inSeq_pv, Res.bind_ok]
@[simp] theorem vEq_pv (p q : List Int) (h : Hv) : vEq (pv p) (pv q) h = .ok (.bl (decide (p = q))) h := by
  simp [vEq, thaw, eqOk]
@[simp] theorem vEq_str (a b : List Nat) (h : Hv) : vEq (.str a) (.str b) h = .ok (.bl (decide (a = b))) h := nrfl rfl
@[simp] theorem vEq_int (a b : Int) (h : Hv) : vEq (.int a) (.int b) h = .ok (.bl (decide (a = b))) h := nrfl rfl
@[simp] theorem vEq_bl (a b : Bool) (h : Hv) : vEq (.bl a) (.bl b) h = .ok (.bl (decide (a = b))) h := by
  simp [vEq, thaw, eqOk, okV, dpV]
@[simp] theorem vAdd_int (a b : Int) (h : Hv) : vAdd (.int a) (.int b) h = .ok (.int (a + b)) h := nrfl rfl
@[simp] theorem vSub_int (a b : Int) (h : Hv) : vSub (.int a) (.int b) h = .ok (.int (a - b)) h := nrfl rfl
@[simp] theorem vLt_int (a b : Int) (h : Hv) : vLt (.int a) (.int b) h = .ok (.bl (decide (a < b))) h := nrfl rfl
@[simp] theorem vGt_int (a b : Int) (h : Hv) : vGt (.int a) (.int b) h = .ok (.bl (decide (b < a))) h := nrfl rfl
@[simp] theorem vLe_int (a b : Int) (h : Hv) : vLe (.int a) (.int b) h = .ok (.bl (decide (a ≤ b))) h := nrfl rfl
@[simp] theorem vGe_int (a b : Int) (h : Hv) : vGe (.int a) (.int b) h = .ok (.bl (decide (b ≤ a))) h := nrfl rfl
@[simp] theorem vInt_int (a : Int) (h : Hv) : vInt (.int a) h = .ok (.int a) h := nrfl rfl
@[simp] theorem vAbs_int (a : Int) (h : Hv) : vAbs (.int a) h = .ok (.int (if a < 0 then -a else a)) h := nrfl rfl
@[simp] theorem vLen_tup (l : List Val) (h : Hv) : vLen (.tup l) h = .ok (.int l.length) h := nrfl rfl
@[simp] theorem vLen_lst (l : List Val) (h : Hv) : vLen (.lst l) h = .ok (.int l.length) h := nrfl rfl
@[simp] theorem vIter_lst (l : List Val) (h : Hv) : vIter (.lst l) h = .ok (l, none) h := nrfl rfl
@[simp] theorem vIter_tup (l : List Val) (h : Hv) : vIter (.tup l) h = .ok (l, none) h := nrfl rfl
@[simp] theorem vIter_fz (l : List Val) (h : Hv) : vIter (.fz l) h = .ok (l, none) h := nrfl rfl
@[simp] theorem srcOk_none (l : List Val) (h : Hv) : srcOk (l, none) h := trivial
theorem vMod_ok {a b : Int} (h : Hv) (hb : 0 < b) : vMod (.int a) (.int b) h = .ok (.int (a % b)) h := by simp [vMod, hb]
theorem vDiv_ok {a b : Int} (h : Hv) (hb : 0 < b) (h2 : b < 1073741824) : vDiv (.int a) (.int b) h = .ok (.int (a / b)) h := by simp [vDiv, hb, h2]
theorem vIx_tup {l : List Val} {i : Int} {v : Val} {h : Hv} (e : nth l i = some v) : vIx (.tup l) (.int i) h = .ok v h := by simp [vIx, seqOf, e]
theorem vIx_lst {l : List Val} {i : Int} {v : Val} {h : Hv} (e : nth l i = some v) : vIx (.lst l) (.int i) h = .ok v h := by simp [vIx, seqOf, lstOf, e]
theorem vIx_dic {i : Nat} {d : List (Val × Val)} {s : List Nat} {v : Val} {h : Hv} (e : h[i]? = some (.dic d)) (g : dGet d (.str s) = some v) : vIx (.ref i) (.str s) h = .ok v h := by
  simp [vIx, seqOf, lstOf, dicOf, e, keyOf, g]
theorem nth_of {α : Type} {l : List α} {i : Int} (h0 : 0 ≤ i) (h1 : i < l.length) : ∃ v, nth l i = some v ∧ v ∈ l := by
  have hi : i.toNat < l.length := by omega
  exact ⟨l[i.toNat], by simp [nth, h0, hi], List.getElem_mem hi⟩

/-! ### the tape -/
structure Tape where
  cells : List Int
  at_ : Int
  left : Int
  seed : Int
  salt : Int
def kCells : List Nat := [99, 101, 108, 108, 115]
def Tape.dic (t : Tape) : List (Val × Val) := [(.str [99, 101, 108, 108, 115], .lst (t.cells.map .int)), (.str [97, 116], .int t.at_), (.str [108, 101, 102, 116], .int t.left), (.str [115, 101, 101, 100], .int t.seed), (.str [115, 97, 108, 116], .int t.salt)]
/-- a tape as an object -/
def TapeOb (o : Ob) : Prop := ∃ t : Tape, 0 ≤ t.at_ ∧ o = .dic t.dic
noncomputable def bTake : Stm := (sSeq (sIf (dAnd (dB (dBin vEq (dBin vIx (dVar 0) (dC (.str [108, 101, 102, 116]))) (dC (.int 0)))) (dB (dBin vLt (dBin vIx (dVar 0) (dC (.str [97, 116]))) (dLen (dBin vIx (dVar 0) (dC (.str [99, 101, 108, 108, 115]))))))) (sSeq (sAsg (dBin vIx (dBin vIx (dVar 0) (dC (.str [99, 101, 108, 108, 115]))) (dBin vIx (dVar 0) (dC (.str [97, 116])))) (gSub (dVar 0) (dC (.str [108, 101, 102, 116]))))
    (sSeq (sAsg (dBin vAdd (dBin vIx (dVar 0) (dC (.str [97, 116]))) (dC (.int 1))) (gSub (dVar 0) (dC (.str [97, 116]))))
    sNext)) sNext)
    (sSeq (sIf (dB (dBin vGt (dBin vIx (dVar 0) (dC (.str [108, 101, 102, 116]))) (dC (.int 0)))) (sSeq (sAsg (dBin vMod (dFn vInt (dBin vIx (dVar 0) (dC (.str [108, 101, 102, 116])))) (dVar 1)) (gName 3))
    (sSeq (sAsg (dBin vDiv (dBin vIx (dVar 0) (dC (.str [108, 101, 102, 116]))) (dVar 1)) (gSub (dVar 0) (dC (.str [108, 101, 102, 116]))))
    (sSeq (sRet (dVar 3))
    sNext))) sNext)
    (sSeq (sAsg (dBin vAdd (dBin vIx (dVar 0) (dC (.str [115, 97, 108, 116]))) (dC (.int 1))) (gSub (dVar 0) (dC (.str [115, 97, 108, 116]))))
    (sSeq (sAsg (dBin vMod (dFn vInt (dBin vAdd (dBin vMul (dBin vIx (dVar 0) (dC (.str [115, 101, 101, 100]))) (dC (.int 48271))) (dBin vMul (dBin vIx (dVar 0) (dC (.str [115, 97, 108, 116]))) (dC (.int 69621))))) (dC (.int 2147483647))) (gName 2))
    (sSeq (sAsg (dBin vMod (dFn vInt (dBin vAdd (dBin vAdd (dBin vMul (dVar 2) (dVar 2)) (dBin vMul (dBin vIx (dVar 0) (dC (.str [115, 97, 108, 116]))) (dC (.int 40692)))) (dC (.int 12345)))) (dC (.int 2147483399))) (gName 2))
    (sSeq (sRet (dBin vMod (dFn vInt (dVar 2)) (dVar 1)))
    sNext))))))
noncomputable def bTape : Stm := (sSeq (sAsg (dLc frozen [3] (iSeq (dVar 0)) (gName 3) dYes (dFn vAbs (dFn vInt (dVar 3)))) (gName 1))
    (sSeq (sAsg (dC (.int 7)) (gName 2))
    (sSeq (sFor (iSeq (dVar 1)) (gName 3) (sSeq (sAsg (dBin vMod (dFn vInt (dBin vAdd (dBin vMul (dVar 2) (dC (.int 31))) (dVar 3))) (dC (.int 2147483647))) (gName 2))
    sNext))
    (sSeq (sRet (dDisp (((dC (.str [99, 101, 108, 108, 115])), (dVar 1)) :: (((dC (.str [97, 116])), (dC (.int 0))) :: (((dC (.str [108, 101, 102, 116])), (dC (.int 0))) :: (((dC (.str [115, 101, 101, 100])), (dVar 2)) :: (((dC (.str [115, 97, 108, 116])), (dC (.int 0))) :: [])))))))
    sNext))))
section
variable (t : Tape) (g : Hv)
@[simp] theorem tp_cells : vIx (.ref 0) (.str [99, 101, 108, 108, 115]) (.dic t.dic :: g) = .ok (.lst (t.cells.map .int)) (.dic t.dic :: g) := nrfl rfl
@[simp] theorem tp_at : vIx (.ref 0) (.str [97, 116]) (.dic t.dic :: g) = .ok (.int t.at_) (.dic t.dic :: g) := nrfl rfl
@[simp] theorem tp_left : vIx (.ref 0) (.str [108, 101, 102, 116]) (.dic t.dic :: g) = .ok (.int t.left) (.dic t.dic :: g) := nrfl rfl
@[simp] theorem tp_seed : vIx (.ref 0) (.str [115, 101, 101, 100]) (.dic t.dic :: g) = .ok (.int t.seed) (.dic t.dic :: g) := nrfl rfl
@[simp] theorem tp_salt : vIx (.ref 0) (.str [115, 97, 108, 116]) (.dic t.dic :: g) = .ok (.int t.salt) (.dic t.dic :: g) := nrfl rfl
@[simp] theorem ts_at (i : Int) : vSet (.ref 0) (.str [97, 116]) (.int i) (.dic t.dic :: g) = some (.dic { t with at_ := i }.dic :: g) := nrfl rfl
@[simp] theorem ts_left (i : Int) : vSet (.ref 0) (.str [108, 101, 102, 116]) (.int i) (.dic t.dic :: g) = some (.dic { t with left := i }.dic :: g) := nrfl rfl
@[simp] theorem ts_salt (i : Int) : vSet (.ref 0) (.str [115, 97, 108, 116]) (.int i) (.dic t.dic :: g) = some (.dic { t with salt := i }.dic :: g) := nrfl rfl
end
theorem big_of {a : Int} (h1 : -18446744073709551616 < a) (h2 : a < 18446744073709551616) : big64 a = true := by
  unfold big64
  have e : (2 : Int) ^ 64 = 18446744073709551616 := by decide
  rw [e]
  simp [h1, h2]
theorem big_mod (x : Int) : big64 (x % 2147483647) = true := by
  have q1 := Int.emod_nonneg x (show (2147483647 : Int) ≠ 0 by omega)
  have q2 := Int.emod_lt_of_pos x (show (0 : Int) < 2147483647 by omega)
  exact big_of (by omega) (by omega)
theorem big_a : big64 48271 = true := big_of (by omega) (by omega)
theorem big_b : big64 69621 = true := big_of (by omega) (by omega)
theorem big_c : big64 40692 = true := big_of (by omega) (by omega)
theorem big_d : big64 31 = true := big_of (by omega) (by omega)
theorem vMul_ok {a b : Int} (h : Hv) (hb : big64 a = true ∨ big64 b = true) : vMul (.int a) (.int b) h = .ok (.int (a * b)) h := by
  have : (big64 a || big64 b) = true := by simpa using hb
  simp [vMul, this]
theorem p1 : (0 : Int) < 2147483647 := by omega
theorem p2 : (0 : Int) < 2147483399 := by omega
theorem take_key {m : Int} {g : Hv} {P : Val → Hv → Prop} (hm : 0 < m) (hm2 : m < 1073741824) (k : ∀ r o', 0 ≤ r → r < m → TapeOb o' → P (.int r) (o' :: g)) (t : Tape) (ht : 0 ≤ t.at_) : sok ((sSeq (sIf (dB (dBin vGt (dBin vIx (dVar 0) (dC (.str [108, 101, 102, 116]))) (dC (.int 0)))) (sSeq (sAsg (dBin vMod (dFn vInt (dBin vIx (dVar 0) (dC (.str [108, 101, 102, 116])))) (dVar 1)) (gName 3))
    (sSeq (sAsg (dBin vDiv (dBin vIx (dVar 0) (dC (.str [108, 101, 102, 116]))) (dVar 1)) (gSub (dVar 0) (dC (.str [108, 101, 102, 116]))))
    (sSeq (sRet (dVar 3))
    sNext))) sNext)
    (sSeq (sAsg (dBin vAdd (dBin vIx (dVar 0) (dC (.str [115, 97, 108, 116]))) (dC (.int 1))) (gSub (dVar 0) (dC (.str [115, 97, 108, 116]))))
    (sSeq (sAsg (dBin vMod (dFn vInt (dBin vAdd (dBin vMul (dBin vIx (dVar 0) (dC (.str [115, 101, 101, 100]))) (dC (.int 48271))) (dBin vMul (dBin vIx (dVar 0) (dC (.str [115, 97, 108, 116]))) (dC (.int 69621))))) (dC (.int 2147483647))) (gName 2))
    (sSeq (sAsg (dBin vMod (dFn vInt (dBin vAdd (dBin vAdd (dBin vMul (dVar 2) (dVar 2)) (dBin vMul (dBin vIx (dVar 0) (dC (.str [115, 97, 108, 116]))) (dC (.int 40692)))) (dC (.int 12345)))) (dC (.int 2147483399))) (gName 2))
    (sSeq (sRet (dBin vMod (dFn vInt (dVar 2)) (dVar 1)))
    sNext))))) [some (.ref 0), some (.int m), none, none] (.dic t.dic :: g)) { nx := fun _ h => P .non h, rt := P } := by
    by_cases hl : 0 < t.left
    · simp [dVar]
      simp [hl, dVar, vMod_ok _ hm, vDiv_ok _ hm hm2]
      exact k _ _ (Int.emod_nonneg _ (by omega)) (Int.emod_lt_of_pos _ hm) ⟨_, by exact ht, rfl⟩
    · refine sok_seq (fun l h => l = [some (.ref 0), some (.int m), none, none] ∧ h = .dic t.dic :: g) (by simp [hl, dVar]) ?_
      rintro l h ⟨rfl, rfl⟩
      refine sok_seq (fun l h => l = [some (.ref 0), some (.int m), none, none] ∧ ∃ t' : Tape, 0 ≤ t'.at_ ∧ h = .dic t'.dic :: g) (by simp [dVar]; exact ⟨_, by exact ht, rfl⟩) ?_
      rintro l h ⟨rfl, t, ht, rfl⟩
      refine sok_seq (fun l h => (∃ x, big64 x = true ∧ l = [some (.ref 0), some (.int m), some (.int x), none]) ∧ h = .dic t.dic :: g) ?_ ?_
      · simp [dVar, vMul_ok _ (.inr big_a), vMul_ok _ (.inr big_b), vMod_ok _ p1]
        exact big_mod _
      rintro l h ⟨⟨x, hx, rfl⟩, rfl⟩
      refine sok_seq (fun l h => (∃ x, l = [some (.ref 0), some (.int m), some (.int x), none]) ∧ h = .dic t.dic :: g) ?_ ?_
      · simp [dVar, vMul_ok _ (.inl hx), vMul_ok _ (.inr big_c), vMod_ok _ p2]
      rintro l h ⟨⟨x, rfl⟩, rfl⟩
      simp [dVar, vMod_ok _ hm]
      exact k _ _ (Int.emod_nonneg _ (by omega)) (Int.emod_lt_of_pos _ hm) ⟨_, by exact ht, rfl⟩
theorem take_sp {m : Int} {o : Ob} {g : Hv} {P : Val → Hv → Prop} (hm : 0 < m) (hm2 : m < 1073741824) (ho : TapeOb o)
    (k : ∀ r o', 0 ≤ r → r < m → TapeOb o' → P (.int r) (o' :: g)) : ok (runDef 4 bTake [.ref 0, .int m] (o :: g)) P := by
  obtain ⟨t, ht, rfl⟩ := ho
  rw [ok_run]
  refine sok_seq (fun l h => l = [some (.ref 0), some (.int m), none, none] ∧ ∃ t' : Tape, 0 ≤ t'.at_ ∧ h = .dic t'.dic :: g) ?_ (fun l h ⟨e1, t', h1, e2⟩ => by subst e1 e2; exact take_key hm hm2 k t' h1)
  simp [dVar]
  by_cases hc : t.left = 0
  · by_cases h2 : t.at_ < t.cells.length
    · obtain ⟨v, e1, e2⟩ := nth_of (l := t.cells.map Val.int) ht (by simpa using h2)
      obtain ⟨c, hc', rfl⟩ := List.mem_map.mp e2
      simp [hc, h2, dVar, vIx_lst e1]
      exact ⟨{ t with left := c, at_ := t.at_ + 1 }, by show 0 ≤ t.at_ + 1; omega, rfl⟩
    · simp [hc, h2, dVar]
      exact ⟨t, ht, rfl⟩
  · simp [hc, dVar]
    exact ⟨t, ht, rfl⟩
theorem tape_sp {ns : List Int} {h : Hv} {P : Val → Hv → Prop} (k : ∀ o, TapeOb o → P (.ref h.length) (h ++ [o])) : ok (runDef 4 bTape [.fz (ns.map .int)] h) P := by
  simp only [ok_run, bTape, e_seq, sok_then]
  simp only [List.map_cons, List.map_nil, List.length_cons, List.length_nil, List.cons_append, List.nil_append, List.replicate]
  simp [dVar]
  refine lc_pure (fun _ => true) (fun v => match v with | .int i => .int (if i < 0 then -i else i) | v => v) trivial ?_ ?_
  · intro x hx
    obtain ⟨i, hi, rfl⟩ := List.mem_map.mp hx
    simp [wipeL, dVar]
  · have e : ∀ ns : List Int, (List.filter (fun _ => true) (ns.map Val.int)).map (fun v => match v with | .int i => .int (if i < 0 then -i else i) | v => v) = (ns.map fun i => if i < 0 then -i else i).map Val.int := by
      intro ns
      induction ns with
      | nil => rfl
      | cons n ns ih => simp only [List.map_cons, List.filter_cons, if_true] at ih ⊢; rw [ih]
    rw [e]
    refine forL_inv (fun items l h1 => h1 = h ∧ (∃ x y, l = [some (.fz (ns.map .int)), some (.lst ((ns.map fun i => if i < 0 then -i else i).map Val.int)), some (.int x), y]) ∧ ∀ z ∈ items, ∃ i, z = Val.int i) ?_ ?_ _ _ _ ?_
    · rintro x r l h1 ⟨rfl, ⟨s, y, rfl⟩, hz⟩
      obtain ⟨i, rfl⟩ := hz x (List.mem_cons_self ..)
      refine ⟨trivial, ?_⟩
      simp [dVar, vMul_ok _ (.inr big_d), vMod_ok _ p1]
      exact fun z hz' => hz z (List.mem_cons_of_mem _ hz')
    · rintro l h1 ⟨rfl, ⟨s, y, rfl⟩, _⟩
      refine ⟨trivial, ?_⟩
      simp [dDisp, dPairs, dVar, keyOf]
      exact k _ ⟨⟨ns.map fun i => if i < 0 then -i else i, 0, 0, s, 0⟩, Int.le_refl _, by simp [dMk, dPut, kEq, Tape.dic]⟩
    · exact ⟨rfl, ⟨7, none, rfl⟩, fun z hz => by obtain ⟨i, _, rfl⟩ := List.mem_map.mp hz; exact ⟨i, rfl⟩⟩
end GH
set_option Elab.async false
set_option linter.all false
set_option maxRecDepth 100000
set_option maxHeartbeats 1000000
set_option autoImplicit false
/-! Chained comparison; texts compared; more. -/
namespace GH
open PySem PySem.Spec PyProof.Rows L2
section
variable {X : Cx} {W : WX}
def dChain (f f' : Val → Val → Hv → Res Val) (da db dc : Den) : Den := fun l h => (da l h).bind fun v h1 => (db l h1).bind fun u h2 => (f v u h2).bind fun z h3 => match z with
  | .bl true => (dc l h3).bind fun w h4 => f' u w h4
  | .bl false => .ok (.bl false) h3
  | _ => .fail
theorem After.bind {α β γ δ : Type} {K : PySem.W.Frag} {W : WX} {rel : Gh → Hp → α → β → Prop} {rel2 : Gh → Hp → γ → δ → Prop} {σ : L2.St} {g : Gh} {H : Hp} {r : Res α} {k : α → Hv → Res γ} {Q : δ → Hp → Prop} {R : β → Hp → Prop} (A : After K W rel2 σ g H Q (r.bind k))
    (hk : ∀ v h1 g1 H1 x, Ext g H g1 H1 → HR K g1 H1 h1 → rel g1 H1 v x → After K W rel2 σ g1 H1 Q (k v h1) → R x H1) : After K W rel σ g H R r := by
  cases r with
  | ok v h1 => exact fun g' H' x E R' r => hk v h1 g' H' x E R' r (After.ext E A)
  | exc e h1 => exact A
  | fail => exact A
theorem tChain_of {f f' : Val → Val → Hv → Res Val} {da db dc : Den} {r r' : R2}
    (hr : ∀ (W : WX) (g : Gh) (H : Hp) (h : Hv) (σ : L2.St) (v u : Val) (x y : V) (Q : VK), HR X.K g H h → VR X.K g H v x → VR X.K g H u y → After X.K W (vr X.K) σ g H Q (f v u h) → r x y H Q)
    (hr' : ∀ (W : WX) (g : Gh) (H : Hp) (h : Hv) (σ : L2.St) (v u : Val) (x y : V) (Q : VK), HR X.K g H h → VR X.K g H v x → VR X.K g H u y → After X.K W (vr X.K) σ g H Q (f' v u h) → r' x y H Q)
    (σ : L2.St) (H : Hp) (Q : VK) (z : tG X.K W (vr X.K) (dChain f f' da db dc) σ H Q) : tChain r r' (tG X.K W (vr X.K) da) (tG X.K W (vr X.K) db) (tG X.K W (vr X.K) dc) σ H Q := by
  obtain ⟨g, l, h, S, R, A⟩ := z
  refine tG_of S R A fun v h1 g1 H1 x E S1 R1 r1 A1 => ?_
  refine tG_of S1 R1 A1 fun u h2 g2 H2 y E2 S2 R2 r2 A2 => ?_
  refine hr W g2 H2 h2 σ v u x y _ R2 (r1.ext R1 E2) r2 (After.bind A2 fun z h3 g3 H3 zx E3 R3 r3 A3 => ?_)
  cases z with
  | bl b =>
    have r3 : VR X.K g3 H3 (.bl b) zx := r3
    simp only [VR] at r3
    subst r3
    refine ⟨b, rfl, ?_⟩
    cases b with
    | false =>
      rw [if_neg Bool.false_ne_true]
      exact A3 g3 H3 _ Ext.refl R3 (by simp only [VR])
    | true =>
      rw [if_pos rfl]
      have S3 := S2.ext R2 E3
      refine tG_of S3 R3 A3 fun w h4 g4 H4 wx E4 S4 R4 r4 A4 => ?_
      exact hr' W g4 H4 h4 σ u w y wx Q R4 ((VR.ext R2 E3 r2).ext R3 E4) r4 A4
  | _ => exact A3.elim
theorem ge_chain {op op' : CmpOp} {f f' : Val → Val → Hv → Res Val} {a b c : Expr} {da db dc : Den} {pos : Pos} (ho : OpG X (compareOp op) f) (ho' : OpG X (compareOp op') f') (ha : GE X W a da) (hb : GE X W b db) (hc : GE X W c dc)
    (hm : lastMarks [op, op'] [b, c] = false := by with_unfolding_all rfl) : GE X W (.Compare a [op, op'] [b, c] pos) (dChain f f' da db dc) := by
  obtain ⟨r, ho, hr⟩ := ho
  obtain ⟨r', ho', hr'⟩ := ho'
  exact PE.imp (pe_chain ho ho' ha hb hc hm) fun σ H Q z => tChain_of hr hr' σ H Q z
theorem gt_chain {op op' : CmpOp} {f f' : Val → Val → Hv → Res Val} {a b c : Expr} {da db dc : Den} {pos : Pos} (ho : OpG X (compareOp op) f) (ho' : OpG X (compareOp op') f') (ha : GE X W a da) (hb : GE X W b db) (hc : GE X W c dc)
    (hm : lastMarks [op, op'] [b, c] = false := by with_unfolding_all rfl) : GT X W (.Compare a [op, op'] [b, c] pos) (dB (dChain f f' da db dc)) := by
  obtain ⟨r, ho, hr⟩ := ho
  obtain ⟨r', ho', hr'⟩ := ho'
  exact PT.imp (pt_chain ho ho' ha hb hc hm) fun σ H Q z => tChain_of (W := W) hr hr' σ H _ (tB_of z)
/-! texts -/
def vCmpS (p : Int → Int → Bool) (q : List Nat → List Nat → Bool) (v u : Val) (h : Hv) : Res Val := match v, u with
  | .int i, .int j => .ok (.bl (p i j)) h
  | .str a, .str b => .ok (.bl (q a b)) h
  | _, _ => .fail
theorem og_cmpS {op : CmpOp} {p : Int → Int → Bool} {q : List Nat → List Nat → Bool} (ho : OpR X (compareOp op) (rI0 fun i j => .bl (p i j))) {F : Str → Str → Bool} (hs : OpR X (compareOp op) (fun x y H Q => ∃ i j, x = .str i ∧ y = .str j ∧ Q (.bl (F i j)) H)) (hF : ∀ a b, F (sOf a) (sOf b) = q a b) :
    OpG X (compareOp op) (vCmpS p q) := by
  refine ⟨_, ho.or hs, fun W g H h σ v u x y Q R rv ru A => ?_⟩
  unfold vCmpS at A
  split at A
  · simp only [VR] at rv ru
    subst rv ru
    exact .inl ⟨_, _, rfl, rfl, A g H _ Ext.refl R (by simp only [VR])⟩
  · simp only [VR] at rv ru
    subst rv ru
    exact .inr ⟨_, _, rfl, rfl, A g H _ Ext.refl R (by simp only [VR]; rw [hF])⟩
  · exact A.elim
abbrev vLtS := vCmpS (fun i j => decide (i < j)) fun a b => decide (a < b)
abbrev vLeS := vCmpS (fun i j => decide (i ≤ j)) fun a b => !decide (b < a)
abbrev vGtS := vCmpS (fun i j => decide (j < i)) fun a b => decide (b < a)
abbrev vGeS := vCmpS (fun i j => decide (j ≤ i)) fun a b => !decide (a < b)
theorem og_ltS : OpG X (compareOp .Lt) vLtS := og_cmpS op_lt op_lt_str fun a b => decide_eq_decide.mpr Iff.rfl
theorem og_leS : OpG X (compareOp .LtE) vLeS := og_cmpS op_le op_le_str fun a b => congrArg (!·) (decide_eq_decide.mpr Iff.rfl)
theorem og_gtS : OpG X (compareOp .Gt) vGtS := og_cmpS op_gt op_gt_str fun a b => decide_eq_decide.mpr Iff.rfl
theorem og_geS : OpG X (compareOp .GtE) vGeS := og_cmpS op_ge op_ge_str fun a b => congrArg (!·) (decide_eq_decide.mpr Iff.rfl)
/-- an int of the top -/
theorem ge_topi {x : Str} {i : Int} {pos : Pos} (hm : ∃ t, X.mg x = some (.int i t)) (hg : Gl X x := by rfl) (hd : (x == ("__debug__" : Str)) = false := by decide +kernel) : GE X W (.Name x pos) (dC (.int i)) := by
  obtain ⟨t, hm⟩ := hm
  exact ge_top (y := .int i) hm ⟨t, rfl⟩ (fun g H => by simp only [VR]) hg hd
/-- a text of the top -/
theorem ge_tops {x z : Str} (s : List Nat) {pos : Pos} (hm : ∃ t, X.mg x = some (.str z t)) (e : z = sOf s := by decide +kernel) (hg : Gl X x := by rfl) (hd : (x == ("__debug__" : Str)) = false := by decide +kernel) : GE X W (.Name x pos) (dC (.str s)) := by
  obtain ⟨t, hm⟩ := hm
  subst e
  exact ge_top (y := .str (sOf s)) hm ⟨t, rfl⟩ (fun g H => by simp only [VR]) hg hd
end
end GH
set_option Elab.async false
set_option linter.all false
set_option maxRecDepth 100000
set_option maxHeartbeats 1000000
set_option autoImplicit false
/-! Dict comprehensions. -/
namespace GH
open PySem PySem.Spec PyProof.Rows L2
open Classical in
noncomputable def dcL (t : Tg) (c : DenG Bool) (ek e : Den) (s : Src) : List Val → List (Val × Val) → Loc → Hv → Res (List (Val × Val))
  | [], acc, _, h => if srcOk s h then .ok acc h else .fail
  | x :: r, acc, l, h => if srcOk s h then (match t x l h with
    | .ok l1 h1 => (match c l1 h1 with
      | .ok b h2 => if b = true then (match ek l1 h2 with
        | .ok k h3 => (match e l1 h3 with
          | .ok v h4 => (match keyOf k with
            | some _ => dcL t c ek e s r (dPut acc k v) l h4
            | none => .fail)
          | _ => .fail)
        | _ => .fail) else dcL t c ek e s r acc l h2
      | _ => .fail)
    | _ => .fail) else .fail
def finD (ys : List (Val × Val)) (h : Hv) : Res Val := .ok (.ref h.length) (h ++ [.dic ys])
noncomputable def dDc (vs : List Nat) (di : DenG Src) (t : Tg) (c : DenG Bool) (ek e : Den) : Den := fun l h => (di l h).bind fun s h1 => (dcL t c ek e s s.1 [] (wipeL l vs) h1).bind finD
section
variable {K : PySem.W.Frag}
theorem upd_self' {H : Hp} {D : Addr} {o : HO} (e : H D = some o) : upd H D o = H := by
  funext b
  by_cases hb : b = D
  · subst hb; rw [upd_same, e]
  · rw [upd_ne hb]
theorem finD_ok {W : WX} {σ : L2.St} {g1 g2 : Gh} {H1 H : Hp} {h h1 : Hv} {Q : VK} {D : Addr} {ys : List (Val × Val)} {xs : List (Key × V)} (nD : H1 D = none) (R1 : HR K g1 H1 h1) (E : Ext ⟨g1.m, D :: g1.r⟩ (upd H1 D (.dK [])) g2 (upd H D (.dK []))) (R2 : HR K g2 H h) (eD : H D = some (.dK xs)) (r : DR K g2 H ys xs)
    (A : After K W (vr K) σ g1 H1 Q (.ok (.ref h.length) (h ++ [.dic ys]))) : Q (.ref D) H := by
  have hD : D ∈ g2.r := by rw [E.r]; exact List.mem_cons_self ..
  have R3 := R2.reset (zs := .dK []) hD eD trivial trivial
  have q := promote (o1 := .dK xs) (ob := .dic ys) R1 nD E R3 trivial (fun hm ho => by
    refine ⟨xs, upd_same, r.1, ?_⟩
    have := r.2.own hm ho
    rw [upd_upd, upd_self' eD]
    exact this) A
  rw [upd_upd, upd_self' eD] at q
  exact q
theorem dc_red {W : WX} {vs : List Nat} {di : DenG Src} {t : Tg} {c : DenG Bool} {ek e : Den} {σ : L2.St} {H : Hp} {Q : VK} (z : tG K W (vr K) (dDc vs di t c ek e) σ H Q) :
    tDc (tI K W di) (tTc K vs t) (tG K W0 br c) (tG K W0 (vr K) ek) (tG K W0 (vr K) e) vs σ H Q := by
  obtain ⟨g, l, h, S, R, A⟩ := z
  refine ⟨g, l, h, S, R, ?_⟩
  unfold dDc at A
  unfold AfterI
  cases ed : di l h with
  | exc x h1 => rw [ed] at A; exact A
  | fail => rw [ed] at A; exact A
  | ok s h1 =>
    rw [ed] at A
    simp only [Res.bind_ok] at A
    have ok1 : srcOk s h1 := by
      cases hs1 : s.1 with
      | nil =>
        rw [hs1] at A
        simp only [dcL] at A
        split at A
        · assumption
        · exact A.elim
      | cons x r =>
        rw [hs1] at A
        simp only [dcL] at A
        split at A
        · assumption
        · exact A.elim
    refine ⟨ok1, fun g1 H1 J E1 R1 hz sv D nD => ?_⟩
    have A := After.ext E1 A
    have al : ∀ b ∈ g1.r, ∃ o, H1 b = some o := fun b hb => R1.own_there (.inr hb)
    have S1 := S.ext R E1
    -- the new list is put aside
    have ES : ExtS g1 H1 ⟨g1.m, D :: g1.r⟩ (upd H1 D (.dK [])) := ⟨⟨[], by simp, by simp⟩, ⟨[D], rfl, fun b hb => by rw [List.mem_singleton.mp hb]; exact nD⟩, fun b o e hb => by rw [upd_ne (ne_of_none e nD)]; exact e⟩
    have RD : HR K ⟨g1.m, D :: g1.r⟩ (upd H1 D (.dK [])) h1 := by
      refine ⟨R1.len, R1.nd, fun a ha z => ?_, fun a ha => ?_, fun i o a e1 e2 => ?_⟩
      · rcases List.mem_cons.mp z with z | z
        · subst z; exact R1.fresh nD (.inl ha)
        · exact R1.dis a ha z
      · rcases List.mem_cons.mp ha with z | z
        · subst z; exact ⟨_, upd_same, trivial⟩
        · obtain ⟨ob, e, mo⟩ := R1.al a z
          exact ⟨ob, by rw [upd_ne (ne_of_none e nD)]; exact e, mo⟩
      · have q := R1.obj i o a e1 e2
        cases o with
        | lst l => obtain ⟨xs, e, r⟩ := q; exact ⟨xs, by rw [upd_ne (ne_of_none e nD)]; exact e, r.extS R1 ES⟩
        | dic l => obtain ⟨xs, e, r⟩ := q; exact ⟨xs, by rw [upd_ne (ne_of_none e nD)]; exact e, r.1, r.2.extS R1 ES⟩
        | ins c f => obtain ⟨dx, gs, e, r⟩ := q; exact ⟨dx, gs, by rw [upd_ne (ne_of_none e nD)]; exact e, r.1, r.2.extS R1 ES⟩
    let Wd : Nat → Hp → Prop := fun i H => ∃ g2 h2 ys xs, H D = some (.dK xs) ∧ Ext ⟨g1.m, D :: g1.r⟩ (upd H1 D (.dK [])) g2 (upd H D (.dK [])) ∧ HR K g2 H h2 ∧ DR K g2 H ys xs ∧ xs.length ≤ i ∧ i ≤ s.1.length ∧
      After K W (vr K) σ g1 H1 Q ((dcL t c ek e s (s.1.drop i) ys (wipeL l vs) h2).bind finD)
    refine ⟨fun i m H => m = s.1.length - i ∧ Wd i H, ⟨s.1.length, by simp, ⟨g1.m, D :: g1.r⟩, h1, [], [], upd_same, by rw [upd_upd]; exact Ext.refl, RD, DR.nil, by simp, Nat.zero_le _, by simpa using A⟩, ?_⟩
    rintro i m H ⟨rfl, g2, h2, ys, xs, eD, E, R2, r, hl, hil, A⟩
    have hDr : D ∈ g2.r := by rw [E.r]; exact List.mem_cons_self ..
    have hDm : D ∉ g2.m := fun z => R2.dis D z hDr
    obtain ⟨tm, em, nm⟩ := E.m
    have em : g2.m = g1.m ++ tm := em
    have nm : ∀ b ∈ tm, H1 b = none := fun b hb => by
      have q := nm b hb
      have hne : b ≠ D := by rintro rfl; rw [upd_same] at q; cases q
      rw [upd_ne hne] at q
      exact q
    have keep : ∀ b o, H1 b = some o → b ∉ g1.m → H b = some o := fun b o e hb => by
      have hne := ne_of_none e nD
      have q := E.keep b o (by rw [upd_ne hne]; exact e) hb
      rw [upd_ne hne] at q
      exact q
    have E2S : ExtS g1 H1 g2 H := ⟨⟨tm, em, nm⟩, ⟨[D], E.r, fun b hb => by rw [List.mem_singleton.mp hb]; exact nD⟩, fun b o e hb => keep b o e fun z => hb (.inl z)⟩
    have E2 : Ext g1 H1 ⟨g2.m, g1.r⟩ H := ⟨⟨tm, em, nm⟩, rfl, keep, fun b o e => by
      have hne := ne_of_none e nD
      obtain ⟨o', q⟩ := E.there b o (by rw [upd_ne hne]; exact e)
      rw [upd_ne hne] at q
      exact ⟨o', q⟩⟩
    have S2 : SR K g2 H (wipeL l vs) (wipe σ vs) := (S1.extS R1 E2S).wipe vs
    cases hd : s.1.drop i with
    | nil =>
      have hle : s.1.length ≤ i := List.drop_eq_nil_iff.mp hd
      rw [hd] at A
      simp only [dcL] at A
      split at A
      · rename_i ok
        exact .inl ⟨(sv g2 H h2 E2S R2 ok i).2 (Nat.le_antisymm hil hle), finD_ok nD R1 E R2 eD r A⟩
      · exact A.elim
    | cons v rest =>
      have hlt : i < s.1.length := by
        by_cases q : i < s.1.length
        · exact q
        · rw [List.drop_eq_nil_iff.mpr (by omega)] at hd; cases hd
      have hv : s.1[i]? = some v := by
        have q := congrArg List.head? hd
        rw [List.head?_drop] at q
        simpa using q
      have hr : s.1.drop (i + 1) = rest := by
        have q := congrArg List.tail hd
        rw [List.tail_drop] at q
        simpa using q
      rw [hd] at A
      simp only [dcL] at A
      split at A
      · rename_i ok
        obtain ⟨go, yl⟩ := (sv g2 H h2 E2S R2 ok i).1 v hv
        refine .inr ⟨go, Wd (i + 1), fun H' q => ⟨s.1.length - (i + 1), by omega, rfl, q⟩, fun x H' y => ?_⟩
        obtain ⟨E3, R3, rx⟩ := yl x H' y
        refine ⟨g2, wipeL l vs, h2, v, S2.ext R2 E3, R3, rx, ?_⟩
        cases et : t v (wipeL l vs) h2 with
        | exc x l1 h1 => rw [et] at A; exact A
        | fail => rw [et] at A; exact A
        | ok l3 h3 =>
          rw [et] at A
          simp only at A
          intro g4 H4 σ4 E4 R4 S4 w4
          refine ⟨w4.trans (wipe_wipe fun _ hu => hu), g4, l3, h3, S4, R4, ?_⟩
          cases ec : c l3 h3 with
          | exc x h1 => rw [ec] at A; exact A.elim
          | fail => rw [ec] at A; exact A.elim
          | ok b h5 =>
            rw [ec] at A
            simp only at A
            intro g5 H5 b' E5 R5 eb
            obtain rfl : b = b' := eb
            have E25 := (E3.trans E4).trans E5
            have keepD : ∀ {g6 : Gh} {H6 : Hp}, Ext g2 H g6 H6 → H6 D = some (.dK xs) := fun E6 => E6.keep D _ eD hDm
            cases b with
            | false =>
              rw [if_neg Bool.false_ne_true] at A ⊢
              exact ⟨g5, h5, ys, xs, keepD E25, E.trans (E25.reset hDm eD), R5, ⟨r.1, r.2.ext R2 E25⟩, by omega, hlt, by rw [hr]; exact A⟩
            | true =>
              rw [if_pos rfl] at A ⊢
              refine ⟨g5, l3, h5, S4.ext R4 E5, R5, ?_⟩
              cases ek0 : ek l3 h5 with
              | exc x h1 => rw [ek0] at A; exact A.elim
              | fail => rw [ek0] at A; exact A.elim
              | ok ky h5k =>
                rw [ek0] at A
                simp only at A
                intro g5k H5k kx E5k R5k rk
                refine ⟨g5k, l3, h5k, (S4.ext R4 E5).ext R5 E5k, R5k, ?_⟩
                cases ee : e l3 h5k with
                | exc x h1 => rw [ee] at A; exact A.elim
                | fail => rw [ee] at A; exact A.elim
                | ok y h6 =>
                  rw [ee] at A
                  simp only at A
                  intro g6 H6 xv E6 R6 rv
                  split at A
                  · rename_i kk hkk
                    have E26 := (E25.trans E5k).trans E6
                    have hD6 : D ∈ g6.r := by rw [E26.r]; exact hDr
                    have k6 := keepD E26
                    have rk6 := VR.ext R5k E6 rk
                    have dr : DR K g6 H6 (dPut ys ky y) (putK xs kk xv) := DR.put ⟨r.1, r.2.ext R2 E26⟩ hkk rv
                    have hle := length_putK xs kk xv
                    refine ⟨xs, kk, key_V rk hkk, k6, by omega, g6, h6, dPut ys ky y, putK xs kk xv, upd_same, ?_, R6.reset hD6 k6 trivial trivial, ⟨dr.1, dr.2.reset hD6 k6 trivial⟩, by omega, hlt, by rw [hr]; exact A⟩
                    rw [upd_upd]
                    exact E.trans (E26.reset hDm eD)
                  · exact A.elim
      · exact A.elim
end
section
variable {X : Cx} {W : WX}
theorem ge_dc {kx vx tg iter : Expr} {ifs : List Expr} {scope : Scope} (own : List (Str × Nat)) {pos : Pos} {di : DenG Src} {t : Tg} {c : DenG Bool} {ek e : Den} (hc : X.calm = true) (hN : X.N.Nodup) (hi : GI X W tg iter di)
    (hg : ∀ (s : Shared) (H : Hp) (C : Addr) (cl : List (Str × Addr)) (fp : List Addr), GC (X.blk s H scope (compEnvC scope cl C X.env) fp) (own.map (·.2)) tg t) (ht : ∀ (s : Shared) (H : Hp) (C : Addr) (cl : List (Str × Addr)) (fp : List Addr), GTs (X.blk s H scope (compEnvC scope cl C X.env) fp) W0 ifs c)
    (hk : ∀ (s : Shared) (H : Hp) (C : Addr) (cl : List (Str × Addr)) (fp : List Addr), GE (X.blk s H scope (compEnvC scope cl C X.env) fp) W0 kx ek)
    (he : ∀ (s : Shared) (H : Hp) (C : Addr) (cl : List (Str × Addr)) (fp : List Addr), GE (X.blk s H scope (compEnvC scope cl C X.env) fp) W0 vx e) (ok : blkC X.N X.env.scope scope own = true := by first | rfl | decide +kernel) (hs : ∀ x, foldedSetIterable iter X.env x = pure x := by intro _; rfl) :
    GE X W (.DictComp kx vx [⟨tg, iter, ifs, 0⟩] scope pos) (dDc (own.map (·.2)) di t c ek e) :=
  PE.imp (pe_dc (g := tTc X.K (own.map fun p : Str × Nat => p.2) t) (tt := tG X.K W0 br c) (tk := tG X.K W0 (vr X.K) ek) (tv := tG X.K W0 (vr X.K) e) hc hN hi (blkOk_by ok) hg ht hk he hs) fun σ H Q z => dc_red z
end
end GH
set_option Elab.async false
set_option linter.all false
set_option maxRecDepth 100000
set_option maxHeartbeats 1000000
set_option autoImplicit false
/-! max, min, join. -/
namespace GH
open PySem PySem.Spec PyProof.Rows L2
section
variable {X : Cx} {W : WX}
def vMax (v : Val) (h : Hv) : Res Val := match lstOf h v with
  | some l => match intsOf l with
    | some ns => match ns.max? with
      | some m => .ok (.int m) h
      | none => .fail
    | none => .fail
  | none => .fail
def vMin (v : Val) (h : Hv) : Res Val := match lstOf h v with
  | some l => match intsOf l with
    | some ns => match ns.min? with
      | some m => .ok (.int m) h
      | none => .fail
    | none => .fail
  | none => .fail
theorem c1_max (hc : X.calm = true) : C1 X (.builtin "max") vMax := ⟨_, cr_max hc, fun W g H h σ v x Q R r A => by
  unfold vMax at A
  split at A
  · rename_i l hl
    split at A
    · rename_i ns hn
      split at A
      · rename_i m hm
        obtain ⟨a, xs, rfl, s, rs⟩ := lstOf_ok R r hl
        rw [intsOf_ok hn rs] at s
        refine ⟨a, ns, rfl, SqL.of s, ?_, fun m' h1 h2 => ?_⟩
        · cases ns with
          | nil => cases hm
          | cons => simp
        · have := List.max?_eq_some_iff.mpr ⟨h1, h2⟩
          rw [hm] at this
          cases this
          exact A g H _ Ext.refl R (by simp only [VR])
      · exact A.elim
    · exact A.elim
  · exact A.elim⟩
theorem c1_min (hc : X.calm = true) : C1 X (.builtin "min") vMin := ⟨_, cr_min hc, fun W g H h σ v x Q R r A => by
  unfold vMin at A
  split at A
  · rename_i l hl
    split at A
    · rename_i ns hn
      split at A
      · rename_i m hm
        obtain ⟨a, xs, rfl, s, rs⟩ := lstOf_ok R r hl
        rw [intsOf_ok hn rs] at s
        refine ⟨a, ns, rfl, SqL.of s, ?_, fun m' h1 h2 => ?_⟩
        · cases ns with
          | nil => cases hm
          | cons => simp
        · have := List.min?_eq_some_iff.mpr ⟨h1, h2⟩
          rw [hm] at this
          cases this
          exact A g H _ Ext.refl R (by simp only [VR])
      · exact A.elim
    · exact A.elim
  · exact A.elim⟩
/-! max(a, b), min(a, b) -/
def C2 (X : Cx) (f : Value) (d : Val → Val → Hv → Res Val) : Prop := ∃ r, CallR X f r ∧ ∀ (W : WX) (g : Gh) (H : Hp) (h : Hv) (σ : L2.St) (v u : Val) (x y : V) (Q : VK), HR X.K g H h → VR X.K g H v x → VR X.K g H u y → After X.K W (vr X.K) σ g H Q (d v u h) → r [x, y] H Q
theorem ge_b2 {id : String} {f : Val → Val → Hv → Res Val} {a b : Expr} {da db : Den} {x : Str} {p pos : Pos} (hf : C2 X (.builtin id) f) (ha : GE X W a da) (hb : GE X W b db) (hm : X.mg x = none) (hg : Gl X x := by rfl) (hv : bootBuiltins x = some (.builtin id) := by decide +kernel) (hn : x ≠ "__name__" := by decide +kernel) (hdb : (x == ("__debug__" : Str)) = false := by decide +kernel)
    (hs1 : starEach [a, b] X.env = (false, eval a X.env) :: starEach [b] X.env := by rfl) (hst : starEach [b] X.env = (false, eval b X.env) :: starEach [] X.env := by rfl) (hpl : (backTo pos (starEach [b] X.env)).any (·.1) = false := by rfl) : GE X W (.Call (.Name x p) [a, b] [] pos) (dBin f da db) := by
  obtain ⟨r, hc, hr⟩ := hf
  refine PE.imp (pe_callB hc hg hm hv (pa_cons ha (pa_cons hb pa_nil hst) hs1) hn hdb hs1 hpl) fun σ H Q ⟨g, l, h, S, R, A⟩ => ?_
  refine tG_of S R A fun v h1 g1 H1 x E S1 R1 r1 A1 => ?_
  refine tG_of S1 R1 A1 fun u h2 g2 H2 y E2 S2 R2 r2 A2 => ?_
  exact hr W g2 H2 h2 σ v u x y Q R2 (r1.ext R1 E2) r2 A2
def vMax2 (v u : Val) (h : Hv) : Res Val := match v, u with
  | .int i, .int j => .ok (.int (if j > i then j else i)) h
  | _, _ => .fail
def vMin2 (v u : Val) (h : Hv) : Res Val := match v, u with
  | .int i, .int j => .ok (.int (if j < i then j else i)) h
  | _, _ => .fail
theorem c2_max (hc : X.calm = true) : C2 X (.builtin "max") vMax2 := ⟨_, call_max2 hc, fun W g H h σ v u x y Q R rv ru A => by
  unfold vMax2 at A
  split at A
  · simp only [VR] at rv ru
    subst rv ru
    exact ⟨_, _, rfl, A g H _ Ext.refl R (by simp only [VR])⟩
  · exact A.elim⟩
theorem c2_min (hc : X.calm = true) : C2 X (.builtin "min") vMin2 := ⟨_, call_min2 hc, fun W g H h σ v u x y Q R rv ru A => by
  unfold vMin2 at A
  split at A
  · simp only [VR] at rv ru
    subst rv ru
    exact ⟨_, _, rfl, A g H _ Ext.refl R (by simp only [VR])⟩
  · exact A.elim⟩
/-! a text joins texts -/
def strsOf : List Val → Option (List (List Nat))
  | [] => some []
  | .str s :: l => (strsOf l).map (s :: ·)
  | _ :: _ => none
theorem strsOf_ok {K : PySem.W.Frag} {g : Gh} {H : Hp} : ∀ {l : List Val} {ns : List (List Nat)} {xs : List V}, strsOf l = some ns → VRs K g H l xs → xs = (ns.map sOf).map V.str
  | [], ns, xs, e, r => by
    simp only [strsOf, Option.some.injEq] at e
    subst e
    simpa [VRs] using r
  | v :: l, ns, xs, e, r => by
    simp only [VRs] at r
    obtain ⟨x, xs', rfl, r1, r2⟩ := r
    cases v with
    | str s =>
      simp only [strsOf, Option.map_eq_some_iff] at e
      obtain ⟨ns', e, rfl⟩ := e
      simp only [VR] at r1
      rw [r1, strsOf_ok e r2]; rfl
    | _ => simp [strsOf] at e
def isStr (h : Hv) : Val → Bool
  | .str _ => true
  | _ => false
def vJoin (x v : Val) (h : Hv) : Res Val := match x with
  | .str a => match seqOf h v with
    | some l => match strsOf l with
      | some ys => if (ys.map List.length).sum + ys.length * a.length ≤ 16777216 then .ok (.str (TL.joinL a ys)) h else .fail
      | none => .fail
    | none => .fail
  | _ => .fail
theorem str_ty {K : PySem.W.Frag} {g : Gh} {H : Hp} {h : Hv} {v : Val} {x : V} (r : VR K g H v x) (e : isStr h v = true) : tyV K "str" x H := by
  cases v with
  | str s =>
    simp only [VR] at r
    subst r
    exact rfl
  | _ => exact absurd e Bool.false_ne_true
theorem m1_join : M1R X "str" "str.join" isStr vJoin := ⟨fun g H h v x R r e => str_ty r e, _, mt_join, fun W g H h σ v u x y Q R rv ru A => by
  unfold vJoin at A
  split at A
  · rename_i a
    split at A
    · rename_i l hl
      split at A
      · rename_i ys hy
        split at A
        · rename_i hz
          simp only [VR] at rv
          subst rv
          obtain ⟨p, xs, rfl, s, rs⟩ := seqOf_ok R ru hl
          have e := strsOf_ok hy rs
          refine ⟨_, p, ys.map sOf, rfl, rfl, by rw [e] at s; exact s, ?_, ?_⟩
          · have : ((ys.map sOf).map (·.length)) = ys.map List.length := by simp [sOf_len]
            rw [this, List.length_map, sOf_len]
            exact hz
          · rw [show Txt.join (sOf a) (ys.map sOf) = sOf (TL.joinL a ys) from SX.join_S a ys]
            exact A g H _ Ext.refl R (by simp only [VR])
        · exact A.elim
      · exact A.elim
    · exact A.elim
  · exact A.elim⟩
theorem ge_join {o e : Expr} {dx de : Den} {apos cpos : Pos} (ho : GE X W o dx) (he : GE X W e de) (hbase : attributeBase o "join" X.env (eval o X.env) = eval o X.env := by rfl)
    (hfew : ((backTo cpos (starEach [e] X.env)).all (fun x => !x.1) && (backToKw cpos (keywordEach [] X.env)).all (fun x => x.1.isSome)
      && decide (([e] : List Expr).length + ([] : List Keyword).length + (if ([] : List Keyword).isEmpty then 0 else 1) < 30)) = true := by rfl)
    (hline : (apos.endLine == cpos.line) = true := by rfl) (hs : starEach [e] X.env = (false, eval e X.env) :: starEach [] X.env := by rfl) (hplain : (backTo cpos (starEach [] X.env)).any (·.1) = false := by rfl) :
    GE X W (.Call (.Attribute o "join" apos) [e] [] cpos) (dMeth1 isStr vJoin dx de) :=
  ge_meth1 m1_join PySem.F.plainAttrs_str PySem.F.slot_str_join PySem.F.type_str_join ho he hbase hfew hline hs hplain
end
end GH
set_option Elab.async false
set_option linter.all false
set_option maxRecDepth 100000
set_option maxHeartbeats 1000000
set_option autoImplicit false
/-! Comprehensions of two clauses. -/
namespace GH
open PySem PySem.Spec PyProof.Rows L2
open Classical in
noncomputable def lcB (t : Tg) (c : DenG Bool) (e : Den) (s : Src) : List Val → List Val → Loc → Hv → Res (List Val)
  | [], acc, _, h => if srcOk s h then .ok acc h else .fail
  | x :: r, acc, l, h => if srcOk s h then (match t x l h with
    | .ok l1 h1 => (match c l1 h1 with
      | .ok b h2 => if b = true then (match e l1 h2 with
        | .ok v h3 => if acc.length < lineN then lcB t c e s r (acc ++ [v]) l h3 else .fail
        | _ => .fail) else lcB t c e s r acc l h2
      | _ => .fail)
    | _ => .fail) else .fail
open Classical in
noncomputable def lc2L (t : Tg) (c : DenG Bool) (di1 : DenG Src) (t1 : Tg) (c1 : DenG Bool) (e : Den) (vs1 : List Nat) (s : Src) : List Val → List Val → Loc → Hv → Res (List Val)
  | [], acc, _, h => if srcOk s h then .ok acc h else .fail
  | x :: r, acc, l, h => if srcOk s h then (match t x l h with
    | .ok l1 h1 => (match c l1 h1 with
      | .ok b h2 => if b = true then (match di1 l1 h2 with
        | .ok s1 h3 => (lcB t1 c1 e s1 s1.1 acc (wipeL l1 vs1) h3).bind fun acc' h4 => lc2L t c di1 t1 c1 e vs1 s r acc' l h4
        | _ => .fail) else lc2L t c di1 t1 c1 e vs1 s r acc l h2
      | _ => .fail)
    | _ => .fail) else .fail
noncomputable def dLc2 (fin : List Val → Hv → Res Val) (vs vs1 : List Nat) (di : DenG Src) (t : Tg) (c : DenG Bool) (di1 : DenG Src) (t1 : Tg) (c1 : DenG Bool) (e : Den) : Den := fun l h => (di l h).bind fun s h1 => (lc2L t c di1 t1 c1 e vs1 s s.1 [] (wipeL l vs) h1).bind fin
section
variable {K : PySem.W.Frag}
/-- the inner loop, from a state of the outer -/
theorem lc_inner {W : WX} {σ0 : L2.St} {Q : VK} {k : List Val → Hv → Res Val} {t : Tg} {c : DenG Bool} {e : Den} {vs : List Nat} {g1 g4 : Gh} {H1 H4 : Hp} {h1 h4 : Hv} {D : Addr} {ys0 : List Val} {xs0 : List V} {J : It} {s : Src} {σ : L2.St} {l : Loc} {Nx : Hp → Prop}
    (R1 : HR K g1 H1 h1) (nD : H1 D = none) (E0 : Ext ⟨g1.m, D :: g1.r⟩ (upd H1 D (.lst [])) g4 (upd H4 D (.lst []))) (R4 : HR K g4 H4 h4) (e4 : H4 D = some (.lst xs0)) (r4 : VRs K g4 H4 ys0 xs0) (S4 : SR K g4 H4 l σ) (sv : Serves K J g4 H4 s) (ok4 : srcOk s h4)
    (A0 : After K W (vr K) σ0 g1 H1 Q ((lcB t c e s s.1 ys0 (wipeL l vs) h4).bind k))
    (fin : ∀ g2 H h ys xs, Ext ⟨g1.m, D :: g1.r⟩ (upd H1 D (.lst [])) g2 (upd H D (.lst [])) → HR K g2 H h → H D = some (.lst xs) → VRs K g2 H ys xs → Ext g4 (upd H4 D (.lst [])) g2 (upd H D (.lst [])) → After K W (vr K) σ0 g1 H1 Q (k ys h) → Nx H) :
    ∃ W1 : Nat → Nat → Hp → Prop, (∃ m, W1 0 m H4) ∧ ∀ i m H, W1 i m H →
      (J.stop i H ∧ Nx H) ∨ (J.go i H ∧ ∃ Nx1 : Hp → Prop, (∀ H', Nx1 H' → ∃ k', k' < m ∧ W1 (i + 1) k' H') ∧ ∀ x H', J.yld i H x H' → (tTc K vs t) x (wipe σ vs) H' fun σ3 H5 => wipe σ3 vs = wipe σ vs ∧ (tG K W0 br c) σ3 H5 fun b H6 =>
        if b = true then (tG K W0 (vr K) e) σ3 H6 fun y H7 => ∃ acc, H7 D = some (.lst acc) ∧ acc.length < sizeLine ∧ Nx1 (upd H7 D (.lst (acc ++ [y]))) else Nx1 H6) := by
  let Wd : Nat → Hp → Prop := fun i H => ∃ g2 h2 ys xs, H D = some (.lst xs) ∧ Ext g4 (upd H4 D (.lst [])) g2 (upd H D (.lst [])) ∧ HR K g2 H h2 ∧ VRs K g2 H ys xs ∧ i ≤ s.1.length ∧
    After K W (vr K) σ0 g1 H1 Q ((lcB t c e s (s.1.drop i) ys (wipeL l vs) h2).bind k)
  refine ⟨fun i m H => m = s.1.length - i ∧ Wd i H, ⟨s.1.length, by simp, g4, h4, ys0, xs0, e4, Ext.refl, R4, r4, Nat.zero_le _, by simpa using A0⟩, ?_⟩
  rintro i m H ⟨rfl, g2, h2, ys, xs, eD, E4, R2, r, hil, A⟩
  have E := E0.trans E4
  have hDr : D ∈ g2.r := by rw [E.r]; exact List.mem_cons_self ..
  have hDm : D ∉ g2.m := fun z => R2.dis D z hDr
  have hD4 : D ∈ g4.r := by rw [E0.r]; exact List.mem_cons_self ..
  have hDm4 : D ∉ g4.m := fun z => R4.dis D z hD4
  obtain ⟨tm, em, nm⟩ := E4.m
  have nm : ∀ b ∈ tm, H4 b = none := fun b hb => by
    have q := nm b hb
    have hne : b ≠ D := by rintro rfl; rw [upd_same] at q; cases q
    rw [upd_ne hne] at q
    exact q
  -- but for the list itself all is as before
  have keepX : ∀ b o, b ≠ D → H4 b = some o → b ∉ g4.m → H b = some o := fun b o hne e hb => by
    have q := E4.keep b o (by rw [upd_ne hne]; exact e) hb
    rw [upd_ne hne] at q
    exact q
  -- states and items do not speak of the list
  have R4r := R4.reset (zs := .lst []) hD4 e4 trivial trivial
  have R2r := R2.reset (zs := .lst []) hDr eD trivial trivial
  have S4r : SR K g4 (upd H4 D (.lst [])) l σ := ⟨S4.len, fun i v e => by
    obtain ⟨x, a, b⟩ := S4.at_ i v e
    exact ⟨x, a, b.reset hD4 e4 trivial⟩⟩
  have S2r : SR K g2 (upd H D (.lst [])) l σ := S4r.ext R4r E4
  have back : ∀ {v : Val} {x : V}, VR K g2 (upd H D (.lst [])) v x → VR K g2 H v x := fun {v x} q => by
    have := VR.reset (ds := .lst []) (zs := .lst xs) hDr upd_same trivial q
    rwa [upd_upd, upd_self' eD] at this
  have S2 : SR K g2 H (wipeL l vs) (wipe σ vs) := SR.wipe ⟨S2r.len, fun i v e => by
    obtain ⟨x, a, b⟩ := S2r.at_ i v e
    exact ⟨x, a, back b⟩⟩ vs
  have ES : ExtS g4 H4 g2 H := ⟨⟨tm, em, nm⟩, ⟨[], by rw [E4.r]; rfl, by simp⟩, fun b o e hb => keepX b o (fun z => hb (.inr (by rw [z]; exact hD4))) e fun z => hb (.inl z)⟩
  have SV := sv g2 H h2 ES R2
  cases hd : s.1.drop i with
  | nil =>
    have hle : s.1.length ≤ i := List.drop_eq_nil_iff.mp hd
    rw [hd] at A
    simp only [lcB] at A
    split at A
    · rename_i ok
      exact .inl ⟨(SV ok i).2 (Nat.le_antisymm hil hle), fin g2 H h2 ys xs E R2 eD r E4 A⟩
    · exact A.elim
  | cons v rest =>
    have hlt : i < s.1.length := by
      by_cases q : i < s.1.length
      · exact q
      · rw [List.drop_eq_nil_iff.mpr (by omega)] at hd; cases hd
    have hv : s.1[i]? = some v := by
      have q := congrArg List.head? hd
      rw [List.head?_drop] at q
      simpa using q
    have hr : s.1.drop (i + 1) = rest := by
      have q := congrArg List.tail hd
      rw [List.tail_drop] at q
      simpa using q
    rw [hd] at A
    simp only [lcB] at A
    split at A
    · rename_i ok
      obtain ⟨go, yl⟩ := (SV ok i).1 v hv
      refine .inr ⟨go, Wd (i + 1), fun H' q => ⟨s.1.length - (i + 1), by omega, rfl, q⟩, fun x H' y => ?_⟩
      obtain ⟨E3, R3, rx⟩ := yl x H' y
      refine ⟨g2, wipeL l vs, h2, v, S2.ext R2 E3, R3, rx, ?_⟩
      cases et : t v (wipeL l vs) h2 with
      | exc x l1 h1 => rw [et] at A; exact A
      | fail => rw [et] at A; exact A
      | ok l3 h3 =>
        rw [et] at A
        simp only at A
        intro gb Hb σb Eb Rb Sb wb
        refine ⟨wb.trans (wipe_wipe fun _ hu => hu), gb, l3, h3, Sb, Rb, ?_⟩
        cases ec : c l3 h3 with
        | exc x h1 => rw [ec] at A; exact A.elim
        | fail => rw [ec] at A; exact A.elim
        | ok b h5 =>
          rw [ec] at A
          simp only at A
          intro g5 H5 b' E5 R5 eb
          obtain rfl : b = b' := eb
          have E25 := (E3.trans Eb).trans E5
          have keepD : ∀ {g6 : Gh} {H6 : Hp}, Ext g2 H g6 H6 → H6 D = some (.lst xs) := fun E6 => E6.keep D _ eD hDm
          cases b with
          | false =>
            rw [if_neg Bool.false_ne_true] at A ⊢
            exact ⟨g5, h5, ys, xs, keepD E25, E4.trans (E25.reset hDm eD), R5, r.ext R2 E25, hlt, by rw [hr]; exact A⟩
          | true =>
            rw [if_pos rfl] at A ⊢
            refine ⟨g5, l3, h5, Sb.ext Rb E5, R5, ?_⟩
            cases ee : e l3 h5 with
            | exc x h1 => rw [ee] at A; exact A.elim
            | fail => rw [ee] at A; exact A.elim
            | ok y h6 =>
              rw [ee] at A
              simp only at A
              intro g6 H6 xv E6 R6 rv
              have E26 := E25.trans E6
              have hD6 : D ∈ g6.r := by rw [E26.r]; exact hDr
              have k6 := keepD E26
              split at A
              · rename_i hac
                refine ⟨xs, k6, by rw [← r.length]; exact line_lt hac, g6, h6, ys ++ [y], xs ++ [xv], upd_same, ?_, R6.reset hD6 k6 trivial trivial, ((r.ext R2 E26).append (.one rv)).reset hD6 k6 trivial, hlt, by rw [hr]; exact A⟩
                rw [upd_upd]
                exact E4.trans (E26.reset hDm eD)
              · exact A.elim
    · exact A.elim
theorem bind_assoc' {α β γ : Type} (r : Res α) (f : α → Hv → Res β) (k : β → Hv → Res γ) : (r.bind f).bind k = r.bind fun a h => (f a h).bind k := by
  cases r <;> rfl
theorem lc2_red {W : WX} {fin : List Val → Hv → Res Val} (hfin : FinOk K fin) {vs vs1 : List Nat} {di : DenG Src} {t : Tg} {c : DenG Bool} {di1 : DenG Src} {t1 : Tg} {c1 : DenG Bool} {e : Den} {σ : L2.St} {H : Hp} {Q : VK} (z : tG K W (vr K) (dLc2 fin vs vs1 di t c di1 t1 c1 e) σ H Q) :
    tLc2 (tI K W di) (tTc K vs t) (tG K W0 br c) (tI K W0 di1) (tTc K vs1 t1) (tG K W0 br c1) (tG K W0 (vr K) e) vs vs1 σ H Q := by
  obtain ⟨g, l, h, S, R, A⟩ := z
  refine ⟨g, l, h, S, R, ?_⟩
  unfold dLc2 at A
  unfold AfterI
  cases ed : di l h with
  | exc x h1 => rw [ed] at A; exact A
  | fail => rw [ed] at A; exact A
  | ok s h1 =>
    rw [ed] at A
    simp only [Res.bind_ok] at A
    have ok1 : srcOk s h1 := by
      cases hs1 : s.1 with
      | nil =>
        rw [hs1] at A
        simp only [lc2L] at A
        split at A
        · assumption
        · exact A.elim
      | cons x r =>
        rw [hs1] at A
        simp only [lc2L] at A
        split at A
        · assumption
        · exact A.elim
    refine ⟨ok1, fun g1 H1 J E1 R1 hz sv D nD => ?_⟩
    have A := After.ext E1 A
    have al : ∀ b ∈ g1.r, ∃ o, H1 b = some o := fun b hb => R1.own_there (.inr hb)
    have S1 := S.ext R E1
    -- the new list is put aside
    have ES : ExtS g1 H1 ⟨g1.m, D :: g1.r⟩ (upd H1 D (.lst [])) := ⟨⟨[], by simp, by simp⟩, ⟨[D], rfl, fun b hb => by rw [List.mem_singleton.mp hb]; exact nD⟩, fun b o e hb => by rw [upd_ne (ne_of_none e nD)]; exact e⟩
    have RD : HR K ⟨g1.m, D :: g1.r⟩ (upd H1 D (.lst [])) h1 := by
      refine ⟨R1.len, R1.nd, fun a ha z => ?_, fun a ha => ?_, fun i o a e1 e2 => ?_⟩
      · rcases List.mem_cons.mp z with z | z
        · subst z; exact R1.fresh nD (.inl ha)
        · exact R1.dis a ha z
      · rcases List.mem_cons.mp ha with z | z
        · subst z; exact ⟨_, upd_same, trivial⟩
        · obtain ⟨ob, e, mo⟩ := R1.al a z
          exact ⟨ob, by rw [upd_ne (ne_of_none e nD)]; exact e, mo⟩
      · have q := R1.obj i o a e1 e2
        cases o with
        | lst l => obtain ⟨xs, e, r⟩ := q; exact ⟨xs, by rw [upd_ne (ne_of_none e nD)]; exact e, r.extS R1 ES⟩
        | dic l => obtain ⟨xs, e, r⟩ := q; exact ⟨xs, by rw [upd_ne (ne_of_none e nD)]; exact e, r.1, r.2.extS R1 ES⟩
        | ins c f => obtain ⟨dx, gs, e, r⟩ := q; exact ⟨dx, gs, by rw [upd_ne (ne_of_none e nD)]; exact e, r.1, r.2.extS R1 ES⟩
    let Wd : Nat → Hp → Prop := fun i H => ∃ g2 h2 ys xs, H D = some (.lst xs) ∧ Ext ⟨g1.m, D :: g1.r⟩ (upd H1 D (.lst [])) g2 (upd H D (.lst [])) ∧ HR K g2 H h2 ∧ VRs K g2 H ys xs ∧ i ≤ s.1.length ∧
      After K W (vr K) σ g1 H1 Q ((lc2L t c di1 t1 c1 e vs1 s (s.1.drop i) ys (wipeL l vs) h2).bind fin)
    refine ⟨fun i m H => m = s.1.length - i ∧ Wd i H, ⟨s.1.length, by simp, ⟨g1.m, D :: g1.r⟩, h1, [], [], upd_same, by rw [upd_upd]; exact Ext.refl, RD, VRs.nil, Nat.zero_le _, by simpa using A⟩, ?_⟩
    rintro i m H ⟨rfl, g2, h2, ys, xs, eD, E, R2, r, hil, A⟩
    have hDr : D ∈ g2.r := by rw [E.r]; exact List.mem_cons_self ..
    have hDm : D ∉ g2.m := fun z => R2.dis D z hDr
    obtain ⟨tm, em, nm⟩ := E.m
    have em : g2.m = g1.m ++ tm := em
    have nm : ∀ b ∈ tm, H1 b = none := fun b hb => by
      have q := nm b hb
      have hne : b ≠ D := by rintro rfl; rw [upd_same] at q; cases q
      rw [upd_ne hne] at q
      exact q
    have keep : ∀ b o, H1 b = some o → b ∉ g1.m → H b = some o := fun b o e hb => by
      have hne := ne_of_none e nD
      have q := E.keep b o (by rw [upd_ne hne]; exact e) hb
      rw [upd_ne hne] at q
      exact q
    have E2S : ExtS g1 H1 g2 H := ⟨⟨tm, em, nm⟩, ⟨[D], E.r, fun b hb => by rw [List.mem_singleton.mp hb]; exact nD⟩, fun b o e hb => keep b o e fun z => hb (.inl z)⟩
    have E2 : Ext g1 H1 ⟨g2.m, g1.r⟩ H := ⟨⟨tm, em, nm⟩, rfl, keep, fun b o e => by
      have hne := ne_of_none e nD
      obtain ⟨o', q⟩ := E.there b o (by rw [upd_ne hne]; exact e)
      rw [upd_ne hne] at q
      exact ⟨o', q⟩⟩
    have S2 : SR K g2 H (wipeL l vs) (wipe σ vs) := (S1.extS R1 E2S).wipe vs
    cases hd : s.1.drop i with
    | nil =>
      have hle : s.1.length ≤ i := List.drop_eq_nil_iff.mp hd
      rw [hd] at A
      simp only [lc2L] at A
      split at A
      · rename_i ok
        exact .inl ⟨(sv g2 H h2 E2S R2 ok i).2 (Nat.le_antisymm hil hle), hfin nD al hDr E.r eD E2 R2 r A⟩
      · exact A.elim
    | cons v rest =>
      have hlt : i < s.1.length := by
        by_cases q : i < s.1.length
        · exact q
        · rw [List.drop_eq_nil_iff.mpr (by omega)] at hd; cases hd
      have hv : s.1[i]? = some v := by
        have q := congrArg List.head? hd
        rw [List.head?_drop] at q
        simpa using q
      have hr : s.1.drop (i + 1) = rest := by
        have q := congrArg List.tail hd
        rw [List.tail_drop] at q
        simpa using q
      rw [hd] at A
      simp only [lc2L] at A
      split at A
      · rename_i ok
        obtain ⟨go, yl⟩ := (sv g2 H h2 E2S R2 ok i).1 v hv
        refine .inr ⟨go, Wd (i + 1), fun H' q => ⟨s.1.length - (i + 1), by omega, rfl, q⟩, fun x H' y => ?_⟩
        obtain ⟨E3, R3, rx⟩ := yl x H' y
        refine ⟨g2, wipeL l vs, h2, v, S2.ext R2 E3, R3, rx, ?_⟩
        cases et : t v (wipeL l vs) h2 with
        | exc x l1 h1 => rw [et] at A; exact A
        | fail => rw [et] at A; exact A
        | ok l3 h3 =>
          rw [et] at A
          simp only at A
          intro g4 H4 σ4 E4 R4 S4 w4
          refine ⟨w4.trans (wipe_wipe fun _ hu => hu), g4, l3, h3, S4, R4, ?_⟩
          cases ec : c l3 h3 with
          | exc x h1 => rw [ec] at A; exact A.elim
          | fail => rw [ec] at A; exact A.elim
          | ok b h5 =>
            rw [ec] at A
            simp only at A
            intro g5 H5 b' E5 R5 eb
            obtain rfl : b = b' := eb
            have E25 := (E3.trans E4).trans E5
            have keepD : ∀ {g6 : Gh} {H6 : Hp}, Ext g2 H g6 H6 → H6 D = some (.lst xs) := fun E6 => E6.keep D _ eD hDm
            cases b with
            | false =>
              rw [if_neg Bool.false_ne_true] at A ⊢
              exact ⟨g5, h5, ys, xs, keepD E25, E.trans (E25.reset hDm eD), R5, r.ext R2 E25, hlt, by rw [hr]; exact A⟩
            | true =>
              rw [if_pos rfl] at A ⊢
              refine ⟨g5, l3, h5, S4.ext R4 E5, R5, ?_⟩
              cases ei : di1 l3 h5 with
              | exc x h1 => rw [ei] at A; exact A.elim
              | fail => rw [ei] at A; exact A.elim
              | ok s1 h6 =>
                rw [ei] at A
                simp only at A
                have ok6 : srcOk s1 h6 := by
                  cases hs1 : s1.1 with
                  | nil =>
                    rw [hs1] at A
                    simp only [lcB] at A
                    split at A
                    · assumption
                    · exact A.elim
                  | cons x r =>
                    rw [hs1] at A
                    simp only [lcB] at A
                    split at A
                    · assumption
                    · exact A.elim
                refine ⟨ok6, fun g6 H6 J1 E6 R6 hz1 sv1 => ?_⟩
                have E26 := E25.trans E6
                have k6 := keepD E26
                have S6 := (S4.ext R4 E5).ext R5 E6
                refine lc_inner (k := fun acc' h4 => (lc2L t c di1 t1 c1 e vs1 s rest acc' (wipeL l vs) h4).bind fin) R1 nD (E.trans (E26.reset hDm eD)) R6 k6 (r.ext R2 E26) S6 sv1 ok6 (by rw [← bind_assoc']; exact A) fun g7 H7 h7 ys7 xs7 E7 R7 e7 r7 E67 A7 => ?_
                exact ⟨g7, h7, ys7, xs7, e7, E7, R7, r7, hlt, by rw [hr]; exact A7⟩
      · exact A.elim
end
section
variable {X : Cx} {W : WX}
theorem ge_lc2 {fin : List Val → Hv → Res Val} (hfin : FinOk X.K fin) {elt tg iter tg1 iter1 : Expr} {ifs ifs1 : List Expr} {scope : Scope} (own : List (Str × Nat)) (vs1 : List Nat) {pos : Pos} {di di1 : DenG Src} {t t1 : Tg} {c c1 : DenG Bool} {e : Den} (hc : X.calm = true) (hN : X.N.Nodup) (hi : GI X W tg iter di)
    (hg : ∀ (s : Shared) (H : Hp) (C : Addr) (cl : List (Str × Addr)) (fp : List Addr), GC (X.blk s H scope (compEnvC scope cl C X.env) fp) (own.map (·.2)) tg t) (ht : ∀ (s : Shared) (H : Hp) (C : Addr) (cl : List (Str × Addr)) (fp : List Addr), GTs (X.blk s H scope (compEnvC scope cl C X.env) fp) W0 ifs c)
    (hi1 : ∀ (s : Shared) (H : Hp) (C : Addr) (cl : List (Str × Addr)) (fp : List Addr), GI (X.blk s H scope (compEnvC scope cl C X.env) fp) W0 tg1 iter1 di1)
    (hg1 : ∀ (s : Shared) (H : Hp) (C : Addr) (cl : List (Str × Addr)) (fp : List Addr), GC (X.blk s H scope (compEnvC scope cl C X.env) fp) vs1 tg1 t1) (ht1 : ∀ (s : Shared) (H : Hp) (C : Addr) (cl : List (Str × Addr)) (fp : List Addr), GTs (X.blk s H scope (compEnvC scope cl C X.env) fp) W0 ifs1 c1)
    (he : ∀ (s : Shared) (H : Hp) (C : Addr) (cl : List (Str × Addr)) (fp : List Addr), GE (X.blk s H scope (compEnvC scope cl C X.env) fp) W0 elt e) (hv : ∀ i ∈ vs1, i ∈ own.map (·.2) := by decide) (ok : blkC X.N X.env.scope scope own = true := by first | rfl | decide +kernel) (hs : ∀ x, foldedSetIterable iter X.env x = pure x := by intro _; rfl) (hs1 : ∀ env x, foldedSetIterable iter1 env x = pure x := by intro _ _; rfl) :
    GE X W (.ListComp elt [⟨tg, iter, ifs, 0⟩, ⟨tg1, iter1, ifs1, 0⟩] scope pos) (dLc2 fin (own.map (·.2)) vs1 di t c di1 t1 c1 e) :=
  PE.imp (pe_lc2 (g := tTc X.K (own.map fun p : Str × Nat => p.2) t) (tt := tG X.K W0 br c) (wi1 := tI X.K W0 di1) (g1 := tTc X.K vs1 t1) (tt1 := tG X.K W0 br c1) (te := tG X.K W0 (vr X.K) e) hc hN hi (blkOk_by ok) hv hg ht hi1 hg1 ht1 he hs hs1) fun σ H Q z => lc2_red hfin z
theorem gs_setLc2 {fin : List Val → Hv → Res Val} (hfin : FinOk X.K fin) (i : Nat) {y : Str} {py : Pos} {elt tg iter tg1 iter1 : Expr} {ifs ifs1 : List Expr} {scope : Scope} (own : List (Str × Nat)) (vs1 : List Nat) {pos spos : Pos} {di di1 : DenG Src} {t t1 : Tg} {c c1 : DenG Bool} {e : Den} (hc : X.calm = true) (hN : X.N.Nodup) (hi : GI X W tg iter di)
    (hg : ∀ (s : Shared) (H : Hp) (C : Addr) (cl : List (Str × Addr)) (fp : List Addr), GC (X.blk s H scope (compEnvC scope cl C X.env) fp) (own.map (·.2)) tg t) (ht : ∀ (s : Shared) (H : Hp) (C : Addr) (cl : List (Str × Addr)) (fp : List Addr), GTs (X.blk s H scope (compEnvC scope cl C X.env) fp) W0 ifs c)
    (hi1 : ∀ (s : Shared) (H : Hp) (C : Addr) (cl : List (Str × Addr)) (fp : List Addr), GI (X.blk s H scope (compEnvC scope cl C X.env) fp) W0 tg1 iter1 di1)
    (hg1 : ∀ (s : Shared) (H : Hp) (C : Addr) (cl : List (Str × Addr)) (fp : List Addr), GC (X.blk s H scope (compEnvC scope cl C X.env) fp) vs1 tg1 t1) (ht1 : ∀ (s : Shared) (H : Hp) (C : Addr) (cl : List (Str × Addr)) (fp : List Addr), GTs (X.blk s H scope (compEnvC scope cl C X.env) fp) W0 ifs1 c1)
    (he : ∀ (s : Shared) (H : Hp) (C : Addr) (cl : List (Str × Addr)) (fp : List Addr), GE (X.blk s H scope (compEnvC scope cl C X.env) fp) W0 elt e) (hy : X.N[i]? = some y := by rfl) (hyl : X.env.scope.names.lookup y = some .local := by rfl) (hsw : swapsWith (.ListComp elt [⟨tg, iter, ifs, 0⟩, ⟨tg1, iter1, ifs1, 0⟩] scope pos) (some (.Name y py)) spos.line X.env = pure true := by exact sw_true rfl rfl rfl (by decide +kernel)) (hv : ∀ i ∈ vs1, i ∈ own.map (·.2) := by decide) (ok : blkC X.N X.env.scope scope own = true := by first | rfl | decide +kernel) (hs : ∀ x, foldedSetIterable iter X.env x = pure x := by intro _; rfl) (hs1 : ∀ env x, foldedSetIterable iter1 env x = pure x := by intro _ _; rfl) :
    GS X W (.Assign [.Name y py] (.ListComp elt [⟨tg, iter, ifs, 0⟩, ⟨tg1, iter1, ifs1, 0⟩] scope pos) spos) (sAsg (dLc2 fin (own.map (·.2)) vs1 di t c di1 t1 c1 e) (gName i)) := by
  refine PS.imp (ps_setLc2 (g := tTc X.K (own.map fun p : Str × Nat => p.2) t) (tt := tG X.K W0 br c) (wi1 := tI X.K W0 di1) (g1 := tTc X.K vs1 t1) (tt1 := tG X.K W0 br c1) (te := tG X.K W0 (vr X.K) e) hc hN hy hyl hsw hi (blkOk_by ok) hv hg ht hi1 hg1 ht1 he hs hs1) fun D σ H ⟨g, l, h, S, R, A⟩ => ?_
  refine lc2_red hfin ?_
  refine tG_to S R A fun v h1 g1 H1 x E S1 R1 r1 A1 => ?_
  exact A1 g1 H1 _ Ext.refl R1 (S1.set i r1)
end
end GH
set_option Elab.async false
set_option linter.all false
set_option maxRecDepth 100000
set_option maxHeartbeats 1000000
set_option autoImplicit false
/-! t[:0:-1] of a tuple. -/
namespace HT
open PySem PySem.Spec PyProof.Rows
section
variable {prog : Program} {w : World} {A : Around} {E : Value → Shared → Prop} {s : Shared}
theorem gh_adjust (n : Nat) : Builtin.Slice.sliceAdjust none (some 0) (-1) (n : Int) = ((n : Int) - 1, if n = 0 then -1 else 0) := by
  unfold Builtin.Slice.sliceAdjust
  cases n with
  | zero => rfl
  | succ n =>
    refine Prod.ext ?_ ?_
    · simp
    · simp
      omega
theorem gh_places (n : Nat) : Builtin.Slice.slicePlaces ((n : Int) - 1) (if n = 0 then -1 else 0) (-1) = n - 1 := by
  unfold Builtin.Slice.slicePlaces
  cases n with
  | zero => rfl
  | succ n =>
    simp
    omega
theorem gh_applied {sl : Addr} {vl vu vs : Value} {n : Nat} {Q : Int × Int × Nat → Shared → Prop} (hs : s.heap.IsSliceOf sl vl vu vs) (pl : IsPart vl none) (pu : IsPart vu (some 0)) (ps : IsPart vs (some (-1)))
    (h : Q ((n : Int) - 1, -1, n - 1) s) : wpAny (model prog w) A (Builtin.Slice.sliceApplied (.ref sl) (pure (n : Int))) Q E s := by
  obtain ⟨os, hos, hcs, hds⟩ := id hs
  unfold Builtin.Slice.sliceApplied Builtin.Slice.sliceFields
  refine wpAny_bind (wpAny_bind (wpAny_field hos hds (x := vl) rfl (wpAny_bind (wpAny_field hos hds (x := vu) rfl (wpAny_bind (wpAny_field hos hds (x := vs) rfl (wpAny_pure ?_)))))))
  refine wpAny_bind (slicePart_ ps ?_)
  show wpAny _ _ (if ((-1 : Int) == 0) = true then _ else _) _ _ s
  rw [if_neg (by decide)]
  refine wpAny_bind (slicePart_ pl (wpAny_bind (slicePart_ pu (wpAny_bind (wpAny_pure ?_)))))
  show wpAny _ _ (match Builtin.Slice.sliceAdjust none (some 0) (-1) (n : Int) with | (lo, hi) => pure (lo, (-1 : Int), Builtin.Slice.slicePlaces lo hi (-1))) _ _ s
  rw [gh_adjust n]
  show wpAny _ _ (pure ((n : Int) - 1, (-1 : Int), Builtin.Slice.slicePlaces ((n : Int) - 1) (if n = 0 then -1 else 0) (-1))) _ _ s
  rw [gh_places]
  exact wpAny_pure h
theorem gh_pick_list (xs : List Value) : ((List.range (xs.length - 1)).filterMap fun (m : Nat) => xs[(((xs.length : Nat) : Int) - 1 + (m : Int) * -1).toNat]?) = (xs.drop 1).reverse := by
  have gen : ∀ k, k ≤ xs.length - 1 → ((List.range k).filterMap fun (m : Nat) => xs[(((xs.length : Nat) : Int) - 1 + (m : Int) * -1).toNat]?) = (xs.drop (xs.length - k)).reverse := by
    intro k
    induction k with
    | zero => intro _; simp
    | succ k ih =>
      intro hk
      rw [List.range_succ, List.filterMap_append, ih (by omega)]
      have e : (((xs.length : Nat) : Int) - 1 + (k : Int) * -1).toNat = xs.length - (k + 1) := by omega
      have hlt : xs.length - (k + 1) < xs.length := by omega
      simp only [List.filterMap_cons, e, List.getElem?_eq_getElem hlt, List.filterMap_nil]
      have d := List.drop_eq_getElem_cons hlt
      rw [d, show xs.length - (k + 1) + 1 = xs.length - k by omega]
      simp
  have := gen (xs.length - 1) (Nat.le_refl _)
  rw [this]
  cases xs with
  | nil => rfl
  | cons a l => simp
theorem gh_pick (xs : Array Value) : ((List.range (xs.size - 1)).filterMap fun (m : Nat) => xs[((xs.size : Int) - 1 + (m : Int) * -1).toNat]?).toArray = ((xs.toList.drop 1).reverse).toArray := by
  have := gh_pick_list xs.toList
  simp only [Array.length_toList, Array.getElem?_toList] at this
  rw [this]
theorem gh_getItem {t sl : Addr} {items : Array Value} {vl vu vs : Value} {Q : Value → Shared → Prop} (ht : IsTup s.heap t items) (hs : s.heap.IsSliceOf sl vl vu vs) (pl : IsPart vl none) (pu : IsPart vu (some 0)) (ps : IsPart vs (some (-1)))
    (h : Q (.ref s.heap.objs.size) { s with heap := s.heap.push { cls := .type "tuple", data := .seq ((items.toList.drop 1).reverse).toArray } })
    (hsz : items.size ≤ sizeLine) : wpAny (model prog w) A (getItem (.ref t) (.ref sl)) Q E s := by
  have htake : sizeOk (.seq ((items.toList.drop 1).reverse).toArray) := by
    show ((items.toList.drop 1).reverse).toArray.size ≤ sizeLine
    rw [List.size_toArray, List.length_reverse, List.length_drop, Array.length_toList]
    omega
  obtain ⟨os, hos, hcs, hds⟩ := id hs
  have hTs : s.TypeIs (.ref sl) "slice" := ⟨os, hos, hcs⟩
  unfold getItem
  try with_reducible refine wpAny_holding ?_
  first | refine wpAny_bind (wpAny_pure ?_) | skip
  refine wpAny_bind (wpAny_sequenceKey ht.typeIs (by decide) ?_)
  refine wpAny_bind (wpAny_callSpecial?_slot (name := Str.ofString "__getitem__") ht.typeIs PyProof.Rows.slot_tuple_getitem
    (wpAny_call_entry PyProof.Rows.slot_tuple_getitem ht.typeIs entry_tuple_getitem ?_ (args_tuple_getitem _ _)))
  show wpAny _ _ (Builtin.Tuple.tupleItemsOf (.ref t) >>= _) _ _ s
  refine wpAny_bind (tupleItemsOf_ ht ?_)
  refine wpAny_bind (wpAny_typeOf hTs ?_)
  rw [if_pos (by decide)]
  refine wpAny_bind (gh_applied hs pl pu ps ?_)
  have hno : ¬ ((((items.size : Int) - 1) == 0 && (-1 : Int) == 1 && (items.size - 1) == items.size) = true) := by
    intro q
    rw [Bool.and_eq_true, Bool.and_eq_true] at q
    exact absurd (eq_of_beq q.1.2) (by decide)
  show wpAny _ _ (if (((items.size : Int) - 1) == 0 && (-1 : Int) == 1 && (items.size - 1) == items.size) = true then _ else _) _ _ s
  rw [if_neg hno, gh_pick]
  first
    | exact wpAny_bind (m := Builtin.Tuple.tupleExact _) (wpAny_newObj_type (wpAny_pure ⟨_, rfl, wpAny_pure h⟩) htake)
    | exact wpAny_bind (m := Builtin.Tuple.tupleExact _) (wpAny_newObj_type (wpAny_bind (wpAny_pure (wpAny_pure ⟨_, rfl, wpAny_pure h⟩))) htake)
    | exact wpAny_bind (wpAny_bind (m := Builtin.Tuple.tupleExact _) (wpAny_newObj_type (wpAny_pure (wpAny_pure ⟨_, rfl, wpAny_pure h⟩)) htake))
    | exact wpAny_bind (wpAny_bind (m := Builtin.Tuple.tupleExact _) (wpAny_newObj_type (wpAny_pure ⟨_, rfl, wpAny_pure h⟩) htake))
end
end HT
namespace GH
open PySem PySem.Spec PyProof.Rows L2
section
variable {X : Cx} {W : WX}
def vBack (v : Val) (h : Hv) : Res Val := match v with
  | .tup l => .ok (.tup (l.drop 1).reverse) h
  | _ => .fail
def tBack (K : PySem.W.Frag) (te : TE) : TE := fun σ H Q => te σ H fun x H1 => ∃ a xs, x = .ref a ∧ SqT K H1 a xs ∧ ∀ p, H1 p = none → Q (.ref p) (upd H1 p (.tup (xs.drop 1).reverse))
theorem pe_back {e : Expr} {te : TE} {k k0 : Nat} {p0 p1 p2 p3 pos : Pos} (he : PE X e te) : PE X (.Subscript e (.Slice none (some (.Constant (.int 0) k0 p0)) (some (.UnaryOp .USub (.Constant (.int 1) k p1) p2)) p3) pos) (tBack X.K te) := by
  refine ⟨fun pins s σ H Q I h => ?_⟩
  refine Subscript_ (thn (he.run pins s σ H _ I h) fun v s1 ⟨x, H1, I1, r1, q1⟩ => ?_)
  obtain ⟨a, xs, ex, hx, q⟩ := q1
  subst ex
  cases r1
  have hst : PO X (some (.UnaryOp .USub (.Constant (.int 1) k p1) p2)) (tPart (tUn (rU fun i => .int (-i)) (tC (.int 1)))) := po_some (pe_un un_neg pe_int)
  have hup : PO X (some (.Constant (.int 0) k0 p0)) (tPart (tC (.int 0))) := po_some pe_int
  refine wpAny_Slice (thn (po_none.run pins s1 σ H1 (fun o H2 => o = none ∧ H2 = H1) I1 ⟨rfl, rfl⟩) fun vl s2 ⟨l, H2, I2, pl, el, e2⟩ => ?_)
  subst el e2
  refine thn (hup.run pins s2 σ H2 (fun o H3 => o = some 0 ∧ H3 = H2) I2 ⟨0, rfl, rfl, rfl⟩) fun vu s3 ⟨u, H3, I3, pu, eu, e3⟩ => ?_
  subst eu e3
  refine thn (hst.run pins s3 σ H3 (fun o H4 => o = some (-1) ∧ H4 = H3) I3 ⟨1, rfl, -1, rfl, rfl, rfl⟩) fun vs s4 ⟨o, H4, I4, ps, eo, e4⟩ => ?_
  subst eo e4
  have I5 : Inv X pins σ H4 { s4 with heap := s4.heap.push { cls := .type "slice", data := .fields #[vl, vu, vs] } } := I4.kept (t' := s4.toks) fun b ob q => Heap.get?_push_of_some _ q
  obtain ⟨its, r, ht, hz⟩ := I5.tuple hx
  have hlen := r.length
  refine tail_any (ops := [.ref a, .ref s4.heap.objs.size]) ht.typeIs (PyProof.Rows.slot_tuple_getitem.lookup) ?_ (by with_unfolding_all rfl)
  refine HT.gh_getItem ht (Heap.IsSliceOf.new _ vl vu vs) pl pu ps ?_ (by rw [List.size_toArray]; omega)
  refine ⟨.ref _, _, I5.laid (t' := s4.toks) (o := .tup (xs.drop 1).reverse) (fun b ob q => Heap.get?_push_of_some _ q) (Nat.le_refl _) ?_, rfl, q _ (I5.hok.fresh (Nat.le_refl _))⟩
  exact ⟨by rw [List.length_reverse, List.length_drop]; omega, _, (r.drop 1).reverse, IsTup.new _ _⟩
theorem ge_back {e : Expr} {d : Den} {k k0 : Nat} {p0 p1 p2 p3 pos : Pos} (he : GE X W e d) : GE X W (.Subscript e (.Slice none (some (.Constant (.int 0) k0 p0)) (some (.UnaryOp .USub (.Constant (.int 1) k p1) p2)) p3) pos) (dFn vBack d) := by
  refine PE.imp (pe_back he) fun σ H Q ⟨g, l, h, S, R, A⟩ => ?_
  refine tG_of S R A fun v h1 g1 H1 x E S1 R1 r1 A1 => ?_
  unfold vBack at A1
  split at A1
  · have r1 : VR X.K g1 H1 (.tup _) x := r1
    simp only [VR] at r1
    obtain ⟨a, xs, rfl, hq, rs⟩ := r1
    refine ⟨a, xs, rfl, hq, fun p np => ?_⟩
    obtain ⟨E4, R4⟩ := R1.grow (o := .tup (xs.drop 1).reverse) np
    refine A1 g1 _ (.ref p) E4 R4 ?_
    simp only [VR]
    exact ⟨p, _, rfl, SqT.of upd_same, ((rs.drop 1).reverse).ext R1 E4⟩
  · exact A1.elim
end
end GH
set_option Elab.async false
set_option linter.all false
set_option maxRecDepth 100000
set_option maxHeartbeats 4000000
set_option autoImplicit false
/-! sets of texts: made of a tuple or a list, walked, sorted. -/
namespace GH
open PySem PySem.Spec PyProof.Rows L2
def keyS (e : Int × Value) : Str := match e.2 with | .str k _ => k | _ => Str.empty
def GoodS (w : World) (e : Int × Value) : Prop := ∃ k tk, e.2 = Value.str k tk ∧ e.1 = hashStr w k
/-- the set of texts at a, its members L -/
def SetS (w : World) (h : Heap) (a : Addr) (L : List Str) : Prop :=
  ∃ o es ep t, h.get? a = some o ∧ o.ExactSet ∧ o.data = .set es ep t ∧ (∀ e ∈ es.toList, GoodS w e) ∧ (es.toList.map keyS).Perm L ∧ L.Nodup ∧
    es.size < scanBound ∧ t.fits es.size = true ∧ Ris t.place.toList ∧ (w.params.followText "set-order" = true ∨ t.led = true)
def addS (L : List Str) (k : Str) : List Str := if k ∈ L then L else L ++ [k]
def ddS (xs : List Str) : List Str := xs.foldl addS []
section
variable {P : Program} {w : World} {h h' : Heap} {a : Addr} {L : List Str}
theorem SetS.at (R : SetS w h a L) (k : ∀ o, h.get? a = some o → h'.get? a = some o) : SetS w h' a L := by
  obtain ⟨o, es, ep, t, ho, r⟩ := R
  exact ⟨o, es, ep, t, k o ho, r⟩
theorem goodS_elems {l : List (Int × Value)} (g : ∀ e ∈ l, GoodS w e) : ElemsOf (PySem.strKind P w) l := fun e he => by
  obtain ⟨k, tk, h1, h2⟩ := g e he
  exact ⟨⟨k, by rw [h1]; exact strKind_is P w k tk, h2⟩, by rw [h1] <;> rfl⟩
theorem goodS_is {e : Int × Value} (g : GoodS w e) (k : Str) : (PySem.strKind P w).is k e.2 = true ↔ keyS e = k := by
  obtain ⟨k0, tk, h1, _⟩ := g
  unfold keyS
  rw [h1]
  constructor
  · intro z
    exact (PySem.strKind P w).inj (.str k0 tk) k0 k (strKind_is P w k0 tk) z
  · rintro rfl
    exact strKind_is P w k0 tk
theorem goodS_mem {l : List (Int × Value)} (g : ∀ e ∈ l, GoodS w e) (k : Str) : k ∈ l.map keyS ↔ ∃ e ∈ l, (PySem.strKind P w).is k e.2 = true := by
  rw [List.mem_map]
  constructor
  · rintro ⟨e, he, q⟩
    exact ⟨e, he, (goodS_is (g e he) k).2 q⟩
  · rintro ⟨e, he, q⟩
    exact ⟨e, he, (goodS_is (g e he) k).1 q⟩
theorem addS_nodup {k : Str} (nd : L.Nodup) : (addS L k).Nodup := by
  unfold addS
  split
  · exact nd
  · rename_i c
    refine List.nodup_append.mpr ⟨nd, by simp, fun x hx y hy => ?_⟩
    rw [List.mem_singleton.mp hy]
    rintro rfl
    exact c hx
end
section
variable {P : Program} {w : World} {A : Around} {E : Value → Shared → Prop} {s : Shared} {a : Addr} {L : List Str}
theorem setS_add_tail {g : Bool → Sem Unit} (hg : ∀ (b : Bool) (s₁ : Shared) (Q' : Unit → Shared → Prop), Q' () s₁ → wpAny (model P w) A (g b) Q' E s₁)
    {o : Obj} {es : Array (Int × Value)} {ep : Nat} {t : SetTable} (ho : s.heap.get? a = some o) (hex : o.ExactSet) (hd : o.data = .set es ep t)
    {es1 : Array (Int × Value)} {t2 : SetTable} (g1 : ∀ e ∈ es1.toList, GoodS w e) (p1 : (es1.toList.map keyS).Perm L) (nd1 : L.Nodup)
    (hb1 : es1.size < scanBound) (hf2 : t2.fits es1.size = true) (hr : Ris t2.place.toList) (hl : w.params.followText "set-order" = true ∨ t2.led = true) {wasDummy : Bool} {R : Option Bool → Shared → Prop}
    (hR : ∀ h', Heap.SameBut a s.heap h' → SetS w h' a L → R (some true) { s with heap := h' }) :
    wpAny (model P w) A (do
        storeSet a es1 t2
        if (!wasDummy && t2.tooFull) = true then do
            g (relayAll t2 es1 (SetTable.grown es1.size)).2.2
            storeSet a (relayAll t2 es1 (SetTable.grown es1.size)).1 (relayAll t2 es1 (SetTable.grown es1.size)).2.1
            pure (some true)
          else pure (some true)) R E s := by
  refine wpAny_bind (wpAny_storeSet_of ho hd ?_ (fits_of_scanBound hb1))
  have ho1 := store_at (es' := es1) (t' := t2) ho hd
  have sb1 := Heap.SameBut.update s.heap a (Obj.putSet es1 t2)
  split
  · have pm := relayAll_perm t2 es1 (SetTable.grown es1.size)
    have hf3 := relayAll_fits t2 es1 (SetTable.grown es1.size)
    have hr3 := relayAll_ris t2 es1 (SetTable.grown es1.size)
    have hl3 := relayAll_led t2 es1 (SetTable.grown es1.size)
    generalize relayAll t2 es1 (SetTable.grown es1.size) = Z at pm hf3 hr3 hl3 ⊢
    obtain ⟨es2, t3, gave⟩ := Z
    dsimp only at pm hf3 hr3 hl3 ⊢
    have hsz : es2.size = es1.size := by rw [← Array.length_toList, pm.length_eq, Array.length_toList]
    have hb2 : es2.size < scanBound := by rw [hsz]; exact hb1
    refine wpAny_bind (hg _ _ _ ?_)
    refine wpAny_bind (wpAny_storeSet_of ho1 rfl ?_ (fits_of_scanBound hb2))
    have ho2 := store_at (es' := es2) (t' := t3) ho1 rfl
    refine wpAny_pure (hR _ (sb1.trans (Heap.SameBut.update _ a _)) ?_)
    exact ⟨_, es2, _, t3, ho2, hex, rfl, fun e he => g1 e (pm.mem_iff.mp he), (pm.map keyS).trans p1, nd1, hb2, hf3, hr3, hl.imp id fun z => by rw [hl3]; exact z⟩
  · exact wpAny_pure (hR _ sb1 ⟨_, es1, _, t2, ho1, hex, rfl, g1, p1, nd1, hb1, hf2, hr, hl⟩)
theorem setS_add_hashed {k : Str} {tk : Tok} {Q : Bool → Shared → Prop} (R : SetS w s.heap a L) (room : L.length + 1 < scanBound)
    (hQ : ∀ h' b, Heap.SameBut a s.heap h' → SetS w h' a (addS L k) → Q b { s with heap := h' }) :
    wpAny (model P w) A (setAddHashed a (.str k tk) (hashStr w k)) Q E s := by
  obtain ⟨o, es, ep, t, ho, hex, hd, g, pL, nd, hb, hf, hr, hl⟩ := R
  have hkey : (PySem.strKind P w).is k (.str k tk) = true := strKind_is P w k tk
  have hsc : (Value.str k tk).scannable = true := rfl
  have hel : ElemsOf (PySem.strKind P w) es.toList := goodS_elems g
  unfold setAddHashed setAddHashedIn
  refine wpAny_holding (wpAny_bind (wpAny_setState_of ho hd hf ?_))
  dsimp only
  rw [byScan_of hsc hb hel]
  simp only [↓reduceIte]
  unfold setAddByScan
  refine wpAny_bind ?_
  refine wpAny_bind (wpAny_rule ?_)
  refine wpAny_bind (wpAny_setScan_of (knd := PySem.strKind P w) (k := k) hkey ho hd hf hel ?_)
  cases hfi : List.findIdx? (fun e => (PySem.strKind P w).is k e.2) es.toList with
  | some j =>
    dsimp only
    obtain ⟨hj, pj, _⟩ := List.findIdx?_eq_some_iff_getElem.mp hfi
    have hk : k ∈ L := pL.mem_iff.mp ((goodS_mem (P := P) (w := w) g k).2 ⟨es.toList[j], List.getElem_mem hj, pj⟩)
    refine wpAny_pure (wpAny_pure ?_)
    exact hQ s.heap _ (Heap.SameBut.refl a s.heap) (by unfold addS; rw [if_pos hk]; exact ⟨o, es, ep, t, ho, hex, hd, g, pL, nd, hb, hf, hr, hl⟩)
  | none =>
    dsimp only
    have hnk : k ∉ L := fun z => by
      obtain ⟨e, he, q⟩ := (goodS_mem (P := P) (w := w) g k).1 (pL.mem_iff.mpr z)
      have c := List.findIdx?_eq_none_iff.mp hfi e he
      rw [q] at c
      cases c
    have hgw : ∀ (b : Bool) {s₁ : Shared} {Q' : Unit → Shared → Prop}, Q' () s₁ → wpAny (model P w) A (match b with | true => rule "set.scan.the-table-gave-way" | false => pure ()) Q' E s₁ :=
      fun b s₁ Q' q => by cases b <;> first | exact wpAny_pure q | exact wpAny_rule q
    have pm := layNew_perm t es (hashStr w k) (.str k tk)
    have hf1 := layNew_fits t es (hashStr w k) (.str k tk)
    have hr1 := layNew_ris t es (hashStr w k) (.str k tk) hr
    have hl1 := layNew_led t es (hashStr w k) (.str k tk)
    generalize layNew t es (hashStr w k) (.str k tk) = Z at pm hf1 hr1 hl1 ⊢
    obtain ⟨es1, t1, wasDummy, gave⟩ := Z
    dsimp only at pm hf1 hr1 hl1 ⊢
    rw [Array.toList_push] at pm
    have pc : es1.toList.Perm ((hashStr w k, Value.str k tk) :: es.toList) := pm.trans (List.perm_append_singleton _ _)
    have pk : (es1.toList.map keyS).Perm (addS L k) := by
      unfold addS
      rw [if_neg hnk]
      exact (pc.map keyS).trans (List.Perm.trans (List.Perm.cons _ pL) (List.perm_append_singleton _ _).symm)
    have g1 : ∀ e ∈ es1.toList, GoodS w e := fun e he => by
      rcases List.mem_cons.mp (pc.mem_iff.mp he) with z | z
      · rw [z]; exact ⟨k, tk, rfl, rfl⟩
      · exact g e z
    have nd1 : (addS L k).Nodup := addS_nodup nd
    have hLs : es.size = L.length := by rw [← pL.length_eq, List.length_map, Array.length_toList]
    have hsz : es1.size = L.length + 1 := by rw [← Array.length_toList, pc.length_eq, List.length_cons, Array.length_toList, hLs]
    have hb1 : es1.size < scanBound := by rw [hsz]; exact room
    have hled : w.params.followText "set-order" = true ∨ t1.led = true := hl.imp id fun z => by rw [hl1]; exact z
    refine wpAny_bind (hgw _ ?_)
    split
    · refine wpAny_bind ?_
      rw [hashByValue_scannable 8 hsc]
      refine wpAny_pure ?_
      refine setS_add_tail ?_ ho hex hd g1 pk nd1 hb1 ?_ ?_ ?_ ?_
      · intro b s₁ Q' q; cases b <;> first | exact wpAny_pure q | exact wpAny_rule q
      · first | (split <;> first | exact hf1 | exact SetTable.fits_plain_off hf1) | exact hf1
      · first | (split <;> exact hr1) | exact hr1
      · first | (split <;> exact hled) | exact hled
      · intro h' sb r; dsimp only; exact wpAny_pure (hQ h' _ sb r)
    · refine wpAny_bind (wpAny_pure ?_)
      simp only [↓reduceIte]
      refine setS_add_tail ?_ ho hex hd g1 pk nd1 hb1 hf1 hr1 hled ?_
      · intro b s₁ Q' q; cases b <;> first | exact wpAny_pure q | exact wpAny_rule q
      · intro h' sb r; dsimp only; exact wpAny_pure (hQ h' _ sb r)
theorem setS_new_at {h : Heap} (ho : h.get? a = some { cls := .type "set", dict := none, data := .set #[] 0 (.fresh 0 0 (!w.params.followText "set-order")) }) : SetS w h a [] :=
  ⟨_, #[], 0, _, ho, ⟨rfl, rfl, rfl⟩, rfl, (fun e he => by simp at he), List.Perm.refl _, List.nodup_nil, (by decide), (by rfl), List.Pairwise.nil, by
    show _ ∨ (!w.params.followText "set-order") = true
    cases w.params.followText "set-order"
    · exact .inr rfl
    · exact .inl rfl⟩
theorem addS_len (L : List Str) (k : Str) : (addS L k).length ≤ L.length + 1 := by
  unfold addS
  split
  · omega
  · simp
theorem ddS_len_aux : ∀ (xs L : List Str), (xs.foldl addS L).length ≤ L.length + xs.length
  | [], L => by simp
  | x :: xs, L => by
    have := ddS_len_aux xs (addS L x)
    have := addS_len L x
    simp only [List.foldl_cons, List.length_cons]
    omega
theorem ddS_len (xs : List Str) : (ddS xs).length ≤ xs.length := by
  have := ddS_len_aux xs []
  simpa [ddS] using this
theorem set_update_txt {I : Addr} {fp wr : List Addr} {G : Array GenState → Array GenState → Prop} {n : Nat} {Pv : Nat → Value → Prop} {St : Nat → Shared → Prop} {R : Result → Shared → Prop}
    (W : WalksS P w A.in1 I fp wr G n Pv St) (S : Addr) (hSf : S ∉ fp) (ns : List Str) (hn : n = ns.length) (hb : ns.length + 1 < scanBound) (hval : ∀ i v, Pv i v → ∃ k t, ns[i]? = some k ∧ v = .str k t) :
    ∀ (k i : Nat) (s : Shared), n - i = k → i ≤ n → St i s → SetS w s.heap S (ddS (ns.take i)) →
      (∀ s', Moved (S :: wr) G s s' → SetS w s'.heap S (ddS ns) → R (.ok (.ret .none)) s') →
      codeAny (model P w) A (.builtin "set.update.loop" ⟨[.ref S, .ref I], []⟩) R s := by
  have hSw : S ∉ wr := fun h => hSf (W.sub _ h)
  have hsub : ∀ b ∈ wr, b ∈ S :: wr := fun b hb => List.mem_cons_of_mem _ hb
  intro k
  induction k with
  | zero =>
    intro i s hk' hi hst hS hR
    have hin : i = n := by omega
    subst hin
    refine codeAny_builtin F.entry_set_update_loop ?_
    rw [Around.under_plainId F.plain_set_update_loop _]
    show wpAny _ A.in1 (pyNext (.ref I) >>= _) _ _ s
    refine wpAny_bind (W.done s _ _ hst fun s' hm => ?_)
    show wpAny _ A.in1 (ret Value.none) _ _ s'
    have e : ns.take i = ns := List.take_of_length_le (by omega)
    rw [e] at hS
    exact wpAny_pure (hR s' (hm.mono hsub) (hS.at fun o e => hm.heap S o hSw e))
  | succ k ih =>
    intro i s hk' hi hst hS hR
    have hlt : i < n := by omega
    refine codeAny_builtin F.entry_set_update_loop ?_
    rw [Around.under_plainId F.plain_set_update_loop _]
    show wpAny _ A.in1 (pyNext (.ref I) >>= _) _ _ s
    refine wpAny_bind (W.item i s _ _ hlt hst fun v s' hP hst' hm => ?_)
    obtain ⟨z, t, hz, rfl⟩ := hval i v hP
    have hS' : SetS w s'.heap S (ddS (ns.take i)) := hS.at fun o e => hm.heap S o hSw e
    show wpAny _ A.in1 (holding [Value.str z t] (setAdd S (.str z t)) >>= _) _ _ s'
    refine wpAny_bind (wpAny_holding ?_)
    unfold setAdd
    refine wpAny_holding ?_
    refine wpAny_bind ((PySem.strKind P w).pyHash (k := z) (strKind_is _ _ _ _) ?_)
    have hlen : (ddS (ns.take i)).length + 1 < scanBound := by
      have := ddS_len (ns.take i)
      rw [List.length_take] at this
      omega
    refine setS_add_hashed (s := { s' with toks := s'.toks + 1 }) hS' hlen fun h' b hsb hS2 => ?_
    have hS3 : SetS w h' S (ddS (ns.take (i + 1))) := by
      have e : ddS (ns.take (i + 1)) = addS (ddS (ns.take i)) z := by
        rw [List.take_add_one, hz]
        simp [ddS, List.foldl_append]
      rw [e]
      exact hS2
    refine wpAny_pure ⟨plainId_quiet F.plain_set_update_loop _, ih (i + 1) _ (by omega) hlt (W.frame _ s' _ _ hst' (Nat.le_succ _) fun b hb o e => ?_) hS3 fun s'' hm'' hS'' => ?_⟩
    · rw [hsb.2 b (fun h : b = S => hSf (by rw [← h]; exact hb))]; exact e
    · refine hR s'' (Moved.trans W.gtrans ((hm.mono hsub).then_heap (Nat.le_succ _) fun b o hb e => ?_) hm'') hS''
      rw [hsb.2 b (fun h : b = S => hb (by rw [h]; exact List.mem_cons_self))]; exact e
end
end GH
set_option Elab.async false
set_option linter.all false
set_option maxRecDepth 100000
set_option maxHeartbeats 4000000
set_option autoImplicit false
/-! set(xs) of a tuple or a list of texts. -/
namespace GH
open PySem PySem.Spec PyProof.Rows L2
section
variable {P : Program} {w : World} {A : Around} {E : Value → Shared → Prop} {s : Shared}

set_option maxRecDepth 100000 in
set_option maxHeartbeats 3200000 in
theorem call_setSTup {l : Addr} {items : Array Value} (ns : List Str) {Q : Value → Shared → Prop} (hh : A.handled = none) (hl : s.heap.IsTuple l items) (hit : StrsAre items.toList ns) (hb : ns.length + 1 < scanBound)
    (h : ∀ (h' : Heap) (tk : Nat), SetS w h' s.heap.objs.size (ddS ns) → (∀ b o, s.heap.get? b = some o → h'.get? b = some o) → Q (.ref s.heap.objs.size) { s with heap := h', toks := tk }) :
    wpAny (model P w) A (call (.type "set") [.ref l]) Q E s := by
  have hisz : items.size = ns.length := by
    have q := StrsAre.len_eq hit
    rw [Array.length_toList] at q
    exact q
  obtain ⟨c, tl, hmro⟩ := F.called_set.mro
  have hmade := F.called_set.made
  have hsub := F.called_set.sub
  refine wpAny_call (codeAny_of_tree ?_)
  show wpAny _ _ (callAny (.type "set") _) _ _ _
  refine wpAny_pure ⟨Code.quiet_builtin _ (by decide +kernel), codeAny_builtin F.entry_type_call ?_⟩
  rw [Around.under_plain (weight_type_call_type "set" [.ref l] []) rfl]
  have h1 := F.called_set.notType
  have h2 := F.called_set.canCreate
  have hct := F.typeCall_set_1 (.ref l)
  repeat (any_goals (first | assumption | wp_step))

  refine codeAny_mono (code_set_led1 (.ref l) (E := E) (Q₁ := fun obj s₁ => obj = .ref s.heap.objs.size ∧ s₁ = { s with heap := s.heap.push { cls := .type "set", dict := none, data := .set #[] 0 (.fresh 0 0 (!w.params.followText "set-order")) } }) ⟨rfl, rfl⟩) fun r s₁ hr => ?_
  cases r with
  | error e => exact hr
  | ok fl =>
    cases fl with
    | ret obj =>
      obtain ⟨rfl, rfl⟩ := hr
      have hS : (s.heap.push { cls := .type "set", dict := none, data := .set #[] 0 (.fresh 0 0 (!w.params.followText "set-order")) }).get? s.heap.objs.size = some { cls := .type "set", dict := none, data := .set #[] 0 (.fresh 0 0 (!w.params.followText "set-order")) } := Heap.get?_push_size _ rfl
      have hT : Shared.TypeIs { s with heap := s.heap.push { cls := .type "set", dict := none, data := .set #[] 0 (.fresh 0 0 (!w.params.followText "set-order")) } } (.ref s.heap.objs.size) "set" := ⟨_, hS, rfl⟩
      have hli := F.called_set.init.lookup
      have hbi := F.called_set.init.bind (.ref s.heap.objs.size)
      repeat (any_goals (first | assumption | wp_step))

      refine codeAny_mono (codeAny_call_builtin (R := wants (fun r s₂ => r = .none ∧ ∃ h' tk, s₂ = { s with heap := h', toks := tk } ∧ SetS w h' s.heap.objs.size (ddS ns) ∧
          (∀ b o, s.heap.get? b = some o → h'.get? b = some o)) E) F.called_set.init.plain F.entry_set_init (check_set_init_1 hT ?_)) fun r₂ s₂ hr₂ => ?_
      · obtain ⟨ol, hol, hcl, nl, hdl⟩ := hl
        obtain ⟨ocls, odict, odata, oslots⟩ := ol
        simp only at hcl hdl
        subst hcl; subst hdl
        have hol' : (s.heap.push { cls := .type "set", dict := none, data := .set #[] 0 (.fresh 0 0 (!w.params.followText "set-order")) }).get? l = some { cls := .type "tuple", dict := odict, data := .seq items nl, slots := oslots } := Heap.get?_push_of_some _ hol
        have hsls := F.sub_tuple_set
        have hslf := F.sub_tuple_frozenset
        have hne : (Value.type "tuple" == Value.type "dict") = false := by decide
        have hl1 : (s.heap.push { cls := .type "set", dict := none, data := .set #[] 0 (.fresh 0 0 (!w.params.followText "set-order")) }).IsTuple l items := ⟨_, hol', rfl, nl, rfl⟩
        unfold Builtin.«set.__init__» noKeywords Builtin.Frozenset.updateFrom
        generalize hPI : pyIter = PI
        wp_walk
        subst hPI

        refine wpAny_pyIter_tuple hl1 ?_
        refine wpAny_bind (wpAny_runValue ?_)
        have hlS : l < s.heap.objs.size := Heap.lt_size hol
        have hh3 : A.in1.in1.in1.handled = none := by simp [hh]
        have hz1 : (s.heap.push { cls := .type "set", dict := none, data := .set #[] 0 (.fresh 0 0 (!w.params.followText "set-order")) }).objs.size = s.heap.objs.size + 1 := Heap.size_push ..
        have hneI : l ≠ (s.heap.push { cls := .type "set", dict := none, data := .set #[] 0 (.fresh 0 0 (!w.params.followText "set-order")) }).objs.size := by
          rw [Heap.size_push]; exact Nat.ne_of_lt (Nat.lt_succ_of_lt hlS)
        have hSf : s.heap.objs.size ∉ [(s.heap.push { cls := .type "set", dict := none, data := .set #[] 0 (.fresh 0 0 (!w.params.followText "set-order")) }).objs.size, l] := by
          rw [Heap.size_push]; simp only [List.mem_cons, List.mem_singleton, List.not_mem_nil, or_false, not_or]
          exact ⟨Nat.ne_of_lt (Nat.lt_succ_self _), Nat.ne_of_gt hlS⟩
        have hval : ∀ (i : Nat) (v : Value), items[i]? = some v → ∃ k t, ns[i]? = some k ∧ v = .str k t := fun i v hv => by
          have hi : i < ns.length := by rw [← hisz]; exact (Array.getElem?_eq_some_iff.mp hv).1
          obtain ⟨t, e⟩ := SS.strs_at hit i v (by rw [Array.getElem?_toList]; exact hv)
          refine ⟨ns[i], t, List.getElem?_eq_getElem hi, ?_⟩
          rw [e, List.getD_eq_getElem?_getD, List.getElem?_eq_getElem hi] <;> rfl
        refine set_update_txt ((Walks.tuple hh3 _ l hneI items).toS) s.heap.objs.size
          hSf ns hisz hb hval (items.size - 0) 0 _ (by omega) (Nat.zero_le _)
          ⟨⟨_, Heap.get?_push_size _ rfl, rfl, rfl⟩, (hl1.push _)⟩ ?hS0 ?hR
        case hS0 =>
          have hget : ((s.heap.push { cls := .type "set", dict := none, data := .set #[] 0 (.fresh 0 0 (!w.params.followText "set-order")) }).push { cls := .type "tuple_iterator", data := .fields #[.ref l, .int 0 0] }).get? s.heap.objs.size
              = some { cls := .type "set", dict := none, data := .set #[] 0 (.fresh 0 0 (!w.params.followText "set-order")) } := Heap.get?_push_of_some _ hS
          exact setS_new_at hget
        case hR =>
          intro s' hm hS'
          obtain ⟨h', g2, d', tk', os'⟩ := s'
          have eg : g2 = s.gens := hm.gens
          have ed : d' = s.drawn := hm.drawn
          have eo : os' = s.os := hm.os
          subst eg; subst ed; subst eo
          show wpAny _ _ _ _ _ _
          refine wpAny_pure ?_
          show wpAny _ _ (ret Value.none) _ _ _
          refine wpAny_pure ⟨rfl, h', tk', rfl, hS', fun b o e => ?_⟩
          have hb0 : b < s.heap.objs.size := Heap.lt_size e
          have hb1 : b ≠ s.heap.objs.size := Nat.ne_of_lt hb0
          have hb2 : b ≠ (s.heap.push { cls := .type "set", dict := none, data := .set #[] 0 (.fresh 0 0 (!w.params.followText "set-order")) }).objs.size := by
            rw [Heap.size_push]; exact Nat.ne_of_lt (Nat.lt_succ_of_lt hb0)
          exact hm.heap b o (by simp only [List.mem_cons, List.mem_singleton, List.not_mem_nil, or_false, not_or]; exact ⟨hb1, hb2⟩) (Heap.get?_push_of_some _ (Heap.get?_push_of_some _ e))

      · cases r₂ with
        | error e => exact hr₂
        | ok fl₂ =>
          cases fl₂ with
          | ret r =>
            obtain ⟨rfl, h', tk, rfl, hS', hk'⟩ := hr₂
            repeat (any_goals (first | assumption | wp_step))
            exact h _ _ hS' hk'
          | _ => exact hr₂.elim
    | _ => exact hr.elim

set_option maxRecDepth 100000 in
set_option maxHeartbeats 3200000 in
theorem call_setSLst {l : Addr} {items : Array Value} (ns : List Str) {Q : Value → Shared → Prop} (hh : A.handled = none) (hl : s.heap.IsList l items) (hit : StrsAre items.toList ns) (hb : ns.length + 1 < scanBound)
    (h : ∀ (h' : Heap) (tk : Nat), SetS w h' s.heap.objs.size (ddS ns) → (∀ b o, s.heap.get? b = some o → h'.get? b = some o) → Q (.ref s.heap.objs.size) { s with heap := h', toks := tk }) :
    wpAny (model P w) A (call (.type "set") [.ref l]) Q E s := by
  have hisz : items.size = ns.length := by
    have q := StrsAre.len_eq hit
    rw [Array.length_toList] at q
    exact q
  obtain ⟨c, tl, hmro⟩ := F.called_set.mro
  have hmade := F.called_set.made
  have hsub := F.called_set.sub
  refine wpAny_call (codeAny_of_tree ?_)
  show wpAny _ _ (callAny (.type "set") _) _ _ _
  refine wpAny_pure ⟨Code.quiet_builtin _ (by decide +kernel), codeAny_builtin F.entry_type_call ?_⟩
  rw [Around.under_plain (weight_type_call_type "set" [.ref l] []) rfl]
  have h1 := F.called_set.notType
  have h2 := F.called_set.canCreate
  have hct := F.typeCall_set_1 (.ref l)
  repeat (any_goals (first | assumption | wp_step))

  refine codeAny_mono (code_set_led1 (.ref l) (E := E) (Q₁ := fun obj s₁ => obj = .ref s.heap.objs.size ∧ s₁ = { s with heap := s.heap.push { cls := .type "set", dict := none, data := .set #[] 0 (.fresh 0 0 (!w.params.followText "set-order")) } }) ⟨rfl, rfl⟩) fun r s₁ hr => ?_
  cases r with
  | error e => exact hr
  | ok fl =>
    cases fl with
    | ret obj =>
      obtain ⟨rfl, rfl⟩ := hr
      have hS : (s.heap.push { cls := .type "set", dict := none, data := .set #[] 0 (.fresh 0 0 (!w.params.followText "set-order")) }).get? s.heap.objs.size = some { cls := .type "set", dict := none, data := .set #[] 0 (.fresh 0 0 (!w.params.followText "set-order")) } := Heap.get?_push_size _ rfl
      have hT : Shared.TypeIs { s with heap := s.heap.push { cls := .type "set", dict := none, data := .set #[] 0 (.fresh 0 0 (!w.params.followText "set-order")) } } (.ref s.heap.objs.size) "set" := ⟨_, hS, rfl⟩
      have hli := F.called_set.init.lookup
      have hbi := F.called_set.init.bind (.ref s.heap.objs.size)
      repeat (any_goals (first | assumption | wp_step))

      refine codeAny_mono (codeAny_call_builtin (R := wants (fun r s₂ => r = .none ∧ ∃ h' tk, s₂ = { s with heap := h', toks := tk } ∧ SetS w h' s.heap.objs.size (ddS ns) ∧
          (∀ b o, s.heap.get? b = some o → h'.get? b = some o)) E) F.called_set.init.plain F.entry_set_init (check_set_init_1 hT ?_)) fun r₂ s₂ hr₂ => ?_
      · obtain ⟨ol, hol, hcl, nl, hdl⟩ := hl
        obtain ⟨ocls, odict, odata, oslots⟩ := ol
        simp only at hcl hdl
        subst hcl; subst hdl
        have hol' : (s.heap.push { cls := .type "set", dict := none, data := .set #[] 0 (.fresh 0 0 (!w.params.followText "set-order")) }).get? l = some { cls := .type "list", dict := odict, data := .seq items nl, slots := oslots } := Heap.get?_push_of_some _ hol
        have hsls := F.sub_list_set
        have hslf := F.sub_list_frozenset
        have hne : (Value.type "list" == Value.type "dict") = false := by decide
        have hl1 : (s.heap.push { cls := .type "set", dict := none, data := .set #[] 0 (.fresh 0 0 (!w.params.followText "set-order")) }).IsList l items := ⟨_, hol', rfl, nl, rfl⟩
        unfold Builtin.«set.__init__» noKeywords Builtin.Frozenset.updateFrom
        generalize hPI : pyIter = PI
        wp_walk
        subst hPI

        refine wpAny_pyIter_list hl1 ?_
        refine wpAny_bind (wpAny_runValue ?_)
        have hlS : l < s.heap.objs.size := Heap.lt_size hol
        have hh3 : A.in1.in1.in1.handled = none := by simp [hh]
        have hz1 : (s.heap.push { cls := .type "set", dict := none, data := .set #[] 0 (.fresh 0 0 (!w.params.followText "set-order")) }).objs.size = s.heap.objs.size + 1 := Heap.size_push ..
        have hneI : l ≠ (s.heap.push { cls := .type "set", dict := none, data := .set #[] 0 (.fresh 0 0 (!w.params.followText "set-order")) }).objs.size := by
          rw [Heap.size_push]; exact Nat.ne_of_lt (Nat.lt_succ_of_lt hlS)
        have hSf : s.heap.objs.size ∉ [(s.heap.push { cls := .type "set", dict := none, data := .set #[] 0 (.fresh 0 0 (!w.params.followText "set-order")) }).objs.size, l] := by
          rw [Heap.size_push]; simp only [List.mem_cons, List.mem_singleton, List.not_mem_nil, or_false, not_or]
          exact ⟨Nat.ne_of_lt (Nat.lt_succ_self _), Nat.ne_of_gt hlS⟩
        have hval : ∀ (i : Nat) (v : Value), items[i]? = some v → ∃ k t, ns[i]? = some k ∧ v = .str k t := fun i v hv => by
          have hi : i < ns.length := by rw [← hisz]; exact (Array.getElem?_eq_some_iff.mp hv).1
          obtain ⟨t, e⟩ := SS.strs_at hit i v (by rw [Array.getElem?_toList]; exact hv)
          refine ⟨ns[i], t, List.getElem?_eq_getElem hi, ?_⟩
          rw [e, List.getD_eq_getElem?_getD, List.getElem?_eq_getElem hi] <;> rfl
        refine set_update_txt ((Walks.list hh3 _ l hneI items).toS) s.heap.objs.size
          hSf ns hisz hb hval (items.size - 0) 0 _ (by omega) (Nat.zero_le _)
          ⟨⟨_, Heap.get?_push_size _ rfl, rfl, rfl⟩, (hl1.push _)⟩ ?hS0 ?hR
        case hS0 =>
          have hget : ((s.heap.push { cls := .type "set", dict := none, data := .set #[] 0 (.fresh 0 0 (!w.params.followText "set-order")) }).push { cls := .type "list_iterator", data := .fields #[.ref l, .int 0 0] }).get? s.heap.objs.size
              = some { cls := .type "set", dict := none, data := .set #[] 0 (.fresh 0 0 (!w.params.followText "set-order")) } := Heap.get?_push_of_some _ hS
          exact setS_new_at hget
        case hR =>
          intro s' hm hS'
          obtain ⟨h', g2, d', tk', os'⟩ := s'
          have eg : g2 = s.gens := hm.gens
          have ed : d' = s.drawn := hm.drawn
          have eo : os' = s.os := hm.os
          subst eg; subst ed; subst eo
          show wpAny _ _ _ _ _ _
          refine wpAny_pure ?_
          show wpAny _ _ (ret Value.none) _ _ _
          refine wpAny_pure ⟨rfl, h', tk', rfl, hS', fun b o e => ?_⟩
          have hb0 : b < s.heap.objs.size := Heap.lt_size e
          have hb1 : b ≠ s.heap.objs.size := Nat.ne_of_lt hb0
          have hb2 : b ≠ (s.heap.push { cls := .type "set", dict := none, data := .set #[] 0 (.fresh 0 0 (!w.params.followText "set-order")) }).objs.size := by
            rw [Heap.size_push]; exact Nat.ne_of_lt (Nat.lt_succ_of_lt hb0)
          exact hm.heap b o (by simp only [List.mem_cons, List.mem_singleton, List.not_mem_nil, or_false, not_or]; exact ⟨hb1, hb2⟩) (Heap.get?_push_of_some _ (Heap.get?_push_of_some _ e))

      · cases r₂ with
        | error e => exact hr₂
        | ok fl₂ =>
          cases fl₂ with
          | ret r =>
            obtain ⟨rfl, h', tk, rfl, hS', hk'⟩ := hr₂
            repeat (any_goals (first | assumption | wp_step))
            exact h _ _ hS' hk'
          | _ => exact hr₂.elim
    | _ => exact hr.elim
end
end GH
set_option Elab.async false
set_option linter.all false
set_option maxRecDepth 100000
set_option maxHeartbeats 4000000
set_option autoImplicit false
/-! sorted(set(xs)), texts. -/
namespace GH
open PySem PySem.Spec PyProof.Rows L2 PySem.W PySem.Calls
def leS (a b : Str) : Bool := decide (a.cps.toList ≤ b.cps.toList)
theorem sortS_perm {bs L : List Str} (p : bs.Perm L) : bs.mergeSort leS = L.mergeSort leS := by
  have tr : ∀ a b c : Str, leS a b = true → leS b c = true → leS a c = true := fun a b c h1 h2 => by
    simp only [leS, decide_eq_true_eq] at *
    exact List.le_trans h1 h2
  have to : ∀ a b : Str, (leS a b || leS b a) = true := fun a b => by
    simp only [leS, Bool.or_eq_true, decide_eq_true_eq]
    exact List.le_total _ _
  refine List.Perm.eq_of_pairwise (le := fun a b => leS a b = true) (fun a b _ _ h1 h2 => ?_) (List.pairwise_mergeSort tr to bs) (List.pairwise_mergeSort tr to L) (((List.mergeSort_perm bs leS).trans p).trans (List.mergeSort_perm L leS).symm)
  simp only [leS, decide_eq_true_eq] at h1 h2
  have := List.le_antisymm h1 h2
  cases a; cases b
  simp only [Str.mk.injEq]
  exact Array.toList_inj.mp this
def IsS (v : Value) (k : Str) : Prop := ∃ t, v = .str k t
section
variable {P : Program} {w : World} {A : Around} {E : Value → Shared → Prop} {s : Shared} {a : Addr} {L : List Str}
theorem each_isS : ∀ (vs : List Value), (∀ v ∈ vs, ∃ k t, v = Value.str k t) → EachIs IsS vs (vs.map fun v => keyS (0, v))
  | [], _ => .nil
  | v :: vs, h => by
    obtain ⟨k, t, rfl⟩ := h v (List.mem_cons_self ..)
    exact .cons ⟨t, rfl⟩ (each_isS vs fun u hu => h u (List.mem_cons_of_mem _ hu))
theorem sorted_setS {Q : Value → Shared → Prop} (R : SetS w s.heap a L) (hh : A.handled = none) (h64 : L.length < 4000) (hu : A.units + 10 < cLine)
    (hQ : ∀ s' p (out : List Value) (c : Nat), (∀ b o, s.heap.get? b = some o → s'.heap.get? b = some o) → s'.gens = s.gens → s'.os = s.os → s.heap.objs.size ≤ p →
      s'.heap.get? p = some (seqObj "list" out.toArray c) → EachIs IsS out (L.mergeSort leS) → Q (.ref p) s') :
    wpAny (model P w) A (call (.builtin "sorted") [.ref a]) Q E s := by
  obtain ⟨o, es, ep, t, ho, hex, hd, g, pL, nd, hb, hf, hr, hl⟩ := R
  refine Calls.call_function_entry kind_sorted plain_sorted entry_sorted (args_sorted1 _) ?_
  unfold Builtin.«sorted»
  refine wpAny_bind (m := checkCount "sorted" 1 1 _) (wpAny_pure ?_)
  refine wpAny_bind (collect_set (A := A.in1) hh ⟨o, ho, hex.1, hd⟩ hf hb hr hl fun s1 vs k1 hz g1 o1 pm => ?_)
  have hvl : vs.length = L.length := by rw [pm.length_eq, List.length_map, ← pL.length_eq, List.length_map]
  have e := each_isS vs fun v hv => by
    obtain ⟨e, he, q⟩ := List.mem_map.mp (pm.mem_iff.mp hv)
    obtain ⟨k, tk, h1, _⟩ := g e he
    exact ⟨k, tk, by rw [← q]; exact h1⟩
  have pk : (vs.map fun v => keyS (0, v)).Perm L := by
    have q := pm.map fun v => keyS (0, v)
    rw [List.map_map] at q
    exact q.trans pL
  have hsl : vs.length ≤ sizeLine := by rw [hvl, sizeLine_eq]; omega
  refine wpAny_bind (wpAny_newList ?_ hsl)
  have hoL : (s1.heap.push (seqObj "list" vs.toArray 0)).get? s1.heap.objs.size = some (seqObj "list" vs.toArray 0) := Heap.get?_push_size _ rfl
  have er : ∀ h : Heap, EachIs (fun v b => ∃ as, Reads h v (PyData.str b) as) vs (vs.map fun v => keyS (0, v)) := fun h => e.mono fun v b ⟨t, q⟩ => ⟨[], by rw [q]; exact .str _ _⟩
  have hal : AllAlike ((vs.map fun v => keyS (0, v)).map PyData.str) := AllAlike.of fun b b' => by simp [alike]
  have hk : Sortable ((vs.map fun v => keyS (0, v)).map PyData.str) := Sortable.others fun b => ⟨by simp, by simp⟩
  refine wpAny_bind (wpAny_holding (wpAny_call_entry slot_list_sort ⟨_, hoL, rfl⟩ entry_list_sort
    (list_sort_vals (s := { s1 with heap := s1.heap.push (seqObj "list" vs.toArray 0) }) hoL (SortsAt.data (each_map (R := fun v d => ∃ as, Reads _ v d as) PyData.str (er _)) hal hk (bound_map fun b hb => ?_)) hsl ⟨_, rfl, ?_⟩) (args_list_sort _)))
  · simp [PyData.depth]
    omega
  · obtain ⟨c, hc⟩ := sortedHeap_at (vs := vs) (out := (sortVals (dataKind (sortingHeap (s1.heap.push (seqObj "list" vs.toArray 0)) s1.heap.objs.size vs) ((vs.map fun v => keyS (0, v)).map PyData.str)) false vs vs).toArray) hoL
    have q := sortVals_data false e (er (sortingHeap (s1.heap.push (seqObj "list" vs.toArray 0)) s1.heap.objs.size vs)) hal
    rw [dataLe_str (fun b : Str => b)] at q
    have q2 : EachIs IsS _ (L.mergeSort leS) := sortS_perm pk ▸ q
    refine wpAny_pure ⟨_, rfl, hQ _ s1.heap.objs.size _ c (fun b u eb => ?_) g1 o1 hz hc q2⟩
    have q := k1 b u eb
    have hlt := Heap.lt_size q
    show (sortedHeap (s1.heap.push (seqObj "list" vs.toArray 0)) s1.heap.objs.size vs _).get? b = some u
    rw [sortedHeap_old (Nat.ne_of_lt hlt) (by rw [size_push']; exact Nat.lt_succ_of_lt hlt)]
    exact Heap.get?_push_of_some _ q
end
end GH
set_option Elab.async false
set_option linter.all false
set_option maxRecDepth 100000
set_option maxHeartbeats 4000000
set_option autoImplicit false
/-! sorted(set(xs)), texts: the rule. -/
namespace GH
open PySem PySem.Spec PyProof.Rows L2
def SetSO (w : World) (a : Addr) (L : List Str) : HO := .ext fun h => SetS w h a L
section
variable {X : Cx} {W : WX}
theorem setSO_new {w : World} {P : Program} {H : Hp} {h : Heap} {a : Addr} {L : List Str} (R : SetS w h a L) : ObjOk P w H h a (SetSO w a L) := by
  have ⟨o, _, _, _, ho, _⟩ := R
  exact ⟨R, ⟨o, ho⟩, fun h1 h2 p k => SetS.at p k⟩
theorem setSO_get {pins : List (Addr × Obj)} {σ : L2.St} {H : Hp} {s : Shared} {a : Addr} {L : List Str} (I : Inv X pins σ H s) (ha : H a = some (SetSO X.w a L)) : SetS X.w s.heap a L := (I.hok a _ ha).1
def rSetS (K : PySem.W.Frag) (w : World) : List V → Hp → VK → Prop := fun xs H Q => ∃ (l : Addr) (ns : List Str), xs = [V.ref l] ∧ (SqL K H l (ns.map V.str) ∨ SqT K H l (ns.map V.str)) ∧ ns.length < 4000 ∧
  ∀ p, H p = none → Q (.ref p) (upd H p (SetSO w p (ddS ns)))
theorem cr_setS (hc : X.calm = true) : CallR X (.type "set") (rSetS X.K X.w) := by
  intro pins s σ H vs us Q I r h
  obtain ⟨l, ns, rfl, hq, hl, q⟩ := h
  rw [Vals.ref1 r]
  have hd := I.ok.hd hc
  rcases hq with hq | hq
  · obtain ⟨its, rv, pt, hz⟩ := I.list hq
    refine call_setSLst ns hd pt.isList (strsAre_of rv) (by unfold scanBound; omega) fun h' tk R k => ?_
    have hn : H s.heap.objs.size = none := I.hok.fresh (Nat.le_refl _)
    exact ⟨.ref _, upd H s.heap.objs.size (SetSO X.w s.heap.objs.size (ddS ns)), I.laid (t' := tk) k (Nat.le_refl _) (setSO_new R), rfl, q _ hn⟩
  · obtain ⟨its, rv, pt, hz⟩ := I.tuple hq
    refine call_setSTup ns hd pt (strsAre_of rv) (by unfold scanBound; omega) fun h' tk R k => ?_
    have hn : H s.heap.objs.size = none := I.hok.fresh (Nat.le_refl _)
    exact ⟨.ref _, upd H s.heap.objs.size (SetSO X.w s.heap.objs.size (ddS ns)), I.laid (t' := tk) k (Nat.le_refl _) (setSO_new R), rfl, q _ hn⟩
def rSortedS (w : World) : List V → Hp → VK → Prop := fun vs H Q => ∃ (a : Addr) (L : List Str), vs = [V.ref a] ∧ H a = some (SetSO w a L) ∧ L.length < 4000 ∧ ∀ p, H p = none → Q (.ref p) (upd H p (.lst ((L.mergeSort leS).map V.str)))
theorem vals_isS : ∀ {out : List Value} {l : List Str}, PySem.W.EachIs IsS out l → Vals (l.map V.str) out
  | _, _, .nil => .nil
  | _, _, .cons ⟨t, e⟩ r => .cons (e ▸ ⟨t, rfl⟩) (vals_isS r)
theorem cr_sortedS (hc : X.calm = true) (hu : X.A.units + 200 < cLine) : CallR X (.builtin "sorted") (rSortedS X.w) := by
  intro pins s σ H vs us Q I r h
  obtain ⟨a, L, rfl, ha, h64, q⟩ := h
  have R := setSO_get I ha
  rw [Vals.ref1 r]
  refine sorted_setS R (I.ok.hd hc) h64 (by omega) fun s' p out c k g o hp hg hi => ?_
  have hlen : ((L.mergeSort leS).map V.str).length ≤ sizeLine := by rw [List.length_map, List.length_mergeSort, sizeLine_eq]; omega
  have hn : H p = none := I.hok.fresh hp
  have J : Inv X pins σ (upd H p (.lst ((L.mergeSort leS).map V.str))) { s with heap := s'.heap, gens := s'.gens, drawn := s'.drawn, toks := s'.toks } :=
    I.call (ch := []) (Un.laid k hp hn) (I.hok.laid k hp ⟨hlen, out, c, vals_isS hi, hg⟩) (by rw [g]; exact I.bare) (fun _ z => nomatch z)
  have e : s' = { s with heap := s'.heap, gens := s'.gens, drawn := s'.drawn, toks := s'.toks } := by
    cases s'
    cases s
    cases o
    rfl
  rw [e]
  exact ⟨.ref p, _, J, rfl, q p hn⟩
theorem VRs_strs {K : PySem.W.Frag} {g : Gh} {H : Hp} : ∀ (l : List Str), VRs K g H (l.map fun s => Val.str s.cps.toList) (l.map V.str)
  | [] => VRs.nil
  | s :: l => VRs.cons (by simp only [VR]; exact congrArg V.str (by cases s; rfl)) (VRs_strs l)
noncomputable def sortSet (ys : List (List Nat)) : List Val := ((ddS (ys.map sOf)).mergeSort leS).map fun s => Val.str s.cps.toList
noncomputable def vSortSet (v : Val) (h : Hv) : Res Val := match seqOf h v with
  | some l => match strsOf l with
    | some ys => if ys.length < 4000 then .ok (.lst (sortSet ys)) h else .fail
    | none => .fail
  | none => .fail
theorem ge_sortSet {e : Expr} {d : Den} {p p2 q pos : Pos} (hc : X.calm = true) (hu : X.A.units + 200 < cLine) (he : GE X W e d) (hm : X.mg "sorted" = none) (hm2 : X.mg "set" = none) (hg : Gl X "sorted" := by rfl) (hg2 : Gl X "set" := by rfl)
    (hst2 : starEach [e] X.env = (false, eval e X.env) :: starEach [] X.env := by rfl) (hpl2 : (backTo q (starEach [] X.env)).any (·.1) = false := by rfl)
    (hst : starEach [.Call (.Name "set" p2) [e] [] q] X.env = (false, eval (.Call (.Name "set" p2) [e] [] q) X.env) :: starEach [] X.env := by rfl) (hpl : (backTo pos (starEach [] X.env)).any (·.1) = false := by rfl) :
    GE X W (.Call (.Name "sorted" p) [.Call (.Name "set" p2) [e] [] q] [] pos) (dFn vSortSet d) := by
  refine PE.imp (pe_callB (cr_sortedS hc hu) hg hm PyProof.Rows.boot_sorted (pa_cons (pe_callTy (cr_setS hc) hg2 hm2 PyProof.Rows.boot_set (pa_cons he pa_nil hst2) (by decide +kernel) (by decide +kernel) hst2 hpl2) pa_nil hst) (by decide +kernel) (by decide +kernel) hst hpl) fun σ H Q ⟨g, l, h, S, R, A⟩ => ?_
  refine tG_of S R A fun v h1 g1 H1 x E1 S1 R1 r1 A1 => ?_
  unfold vSortSet at A1
  split at A1
  · rename_i l1 hl
    split at A1
    · rename_i ys hy
      split at A1
      · rename_i hz
        obtain ⟨a, xs, rfl, s, rs⟩ := seqOf_ok R1 r1 hl
        have e := strsOf_ok hy rs
        rw [e] at s
        refine ⟨a, ys.map sOf, rfl, by first | exact s | exact s.symm, by rw [List.length_map]; exact hz, fun p np => ?_⟩
        obtain ⟨E4, R4⟩ := R1.grow (o := SetSO X.w p (ddS (ys.map sOf))) np
        have hl2 : (ddS (ys.map sOf)).length < 4000 := by have := ddS_len (ys.map sOf); rw [List.length_map] at this; omega
        refine ⟨p, _, rfl, upd_same, hl2, fun p' np' => ?_⟩
        obtain ⟨E5, R5⟩ := R4.grow (o := .lst (((ddS (ys.map sOf)).mergeSort leS).map V.str)) np'
        refine A1 g1 _ (.ref p') (E4.trans E5) R5 ?_
        simp only [VR]
        exact ⟨p', _, rfl, R4.fresh np', upd_same, VRs_strs _⟩
      · exact A1.elim
    · exact A1.elim
  · exact A1.elim
end
end GH
set_option Elab.async false
set_option linter.all false
set_option maxRecDepth 100000
set_option maxHeartbeats 1000000
set_option autoImplicit false
/-! steps of plain reasoning, for every law. -/
namespace GH
open PySem
section
variable {l : GH.Loc} {h h1 : Hv} {P : Post} {rest a b : Stm} {d : Den} {i : Nat} {v : Val} {w u : List Nat} {c : Bool}
theorem asg_ (e : d l h = .ok v h1) (z : sok (rest (l.set i (some v)) h1) P) : sok (sSeq (sAsg d (gName i)) rest l h) P := by
  rw [e_seq, sok_then, e_asg, e]
  exact z
theorem ret_ (z : ok (d l h) P.rt) : sok (sSeq (sRet d) rest l h) P := by
  rw [e_seq, sok_then, e_ret, sok_to]
  exact z
theorem skip_ (hl : l[i]? = some (some (.str u))) (hne : u ≠ w) (z : sok (rest l h) P) : sok (sSeq (sIf (dB (dBin vEq (dVar i) (dC (.str w)))) a sNext) rest l h) P := by
  rw [e_seq, sok_then]
  simp only [e_if, e_b, e_bin, dVar, hl, Res.bind_ok, e_c, vEq_str, resB_bl, Res.to_ok, hne, decide_false, Bool.false_eq_true, if_false, e_next, sok_nx]
  exact z
theorem hit_ (hl : l[i]? = some (some (.str w))) (z : ok (d l h) P.rt) : sok (sSeq (sIf (dB (dBin vEq (dVar i) (dC (.str w)))) (sSeq (sRet d) sNext) sNext) rest l h) P := by
  rw [e_seq, sok_then]
  simp only [e_if, e_b, e_bin, dVar, hl, Res.bind_ok, e_c, vEq_str, resB_bl, Res.to_ok, decide_true, if_true]
  exact ret_ z
theorem if_ {t : DenG Bool} (e : t l h = .ok c h) (z1 : c = true → sok (a l h) { P with nx := fun l h => sok (rest l h) P }) (z2 : c = false → sok (rest l h) P) : sok (sSeq (sIf t a sNext) rest l h) P := by
  rw [e_seq, sok_then]
  simp only [e_if, e, Res.to_ok]
  cases c with
  | true => simpa using z1 rfl
  | false => simpa using z2 rfl
/-- a test that may call -/
theorem ifk_ {t : DenG Bool} (e : ok (t l h) fun c h1 => (c = true → sok (a l h1) { P with nx := fun l h => sok (rest l h) P }) ∧ (c = false → sok (rest l h1) P)) : sok (sSeq (sIf t a sNext) rest l h) P := by
  rw [e_seq, sok_then, e_if, sok_to]
  refine ok_imp e fun c h1 z => ?_
  cases c with
  | true => simpa using z.1 rfl
  | false => simpa using z.2 rfl
theorem asgk_ (z : ok (d l h) fun v h1 => sok (rest (l.set i (some v)) h1) P) : sok (sSeq (sAsg d (gName i)) rest l h) P := by
  rw [e_seq, sok_then, e_asg, sok_to]
  exact z
theorem asgq_ (Q : Val → Hv → Prop) (a : ok (d l h) Q) (z : ∀ v h1, Q v h1 → sok (rest (l.set i (some v)) h1) P) : sok (sSeq (sAsg d (gName i)) rest l h) P := asgk_ (ok_imp a z)
theorem sok_seqo (R : GH.Loc → Hv → Prop) (h1 : ∀ R' : GH.Loc → Hv → Prop, (∀ l h, R l h → R' l h) → sok (a l h) { P with nx := R' }) (h2 : ∀ l h, R l h → sok (b l h) P) : sok (sSeq a b l h) P := sok_seq R (h1 R fun _ _ z => z) h2
theorem asgo_ (Q : Val → Hv → Prop) (a : ∀ Q' : Val → Hv → Prop, (∀ v h, Q v h → Q' v h) → ok (d l h) Q') (z : ∀ v h1, Q v h1 → sok (rest (l.set i (some v)) h1) P) : sok (sSeq (sAsg d (gName i)) rest l h) P := asgq_ Q (a Q fun _ _ z => z) z
end
theorem forL_invo {t : Tg} {b : Stm} {s : Src} {P : Post} (I : List Val → GH.Loc → Hv → Prop)
    (step : ∀ I' : List Val → GH.Loc → Hv → Prop, (∀ x l h, I x l h → I' x l h) → ∀ x r l h, I (x :: r) l h → srcOk s h ∧ tok (t x l h) fun l1 h1 => sok (b l1 h1) { nx := fun l2 h2 => I' r l2 h2, ct := fun l2 h2 => I' r l2 h2, bk := P.nx, rt := P.rt })
    (done : ∀ l h, I [] l h → srcOk s h ∧ P.nx l h) (items : List Val) (l : GH.Loc) (h : Hv) (i : I items l h) : sok (forL t b s items l h) P := forL_inv I (step I fun _ _ _ z => z) done items l h i
theorem lcL_invo {t : Tg} {c : DenG Bool} {e : Den} {s : Src} {P : List Val → Hv → Prop} (I : List Val → List Val → Hv → Prop) {l : GH.Loc}
    (step : ∀ I' : List Val → List Val → Hv → Prop, (∀ x l h, I x l h → I' x l h) → ∀ x r acc h, I (x :: r) acc h → srcOk s h ∧ tok (t x l h) fun l1 h1 => ok (c l1 h1) fun b h2 => if b then ok (e l1 h2) fun v h3 => I' r (acc ++ [v]) h3 else I' r acc h2)
    (done : ∀ acc h, I [] acc h → srcOk s h ∧ P acc h) (items acc : List Val) (h : Hv) (i : I items acc h) : ok (lcL t c e s items acc l h) P := lcL_inv I (step I fun _ _ _ z => z) done items acc h i
@[simp] theorem e_isi (t : Ty) (d : Den) (l : GH.Loc) (h : Hv) : dIsi t d l h = (d l h).bind fun v h1 => match tyOf h1 v with
  | some a => .ok (.bl (isiB a t)) h1
  | none => .fail := nrfl rfl
theorem vAll_bls (l : List Bool) (h : Hv) : vAll (.lst (l.map .bl)) h = .ok (.bl (l.all id)) h := by
  have : blsOf (l.map .bl) = some l := by
    induction l with
    | nil => rfl
    | cons a l ih => simp [blsOf, ih]
  simp [vAll, lstOf, this]
theorem rng_ok {j : Nat} {h : Hv} (h1 : j ≤ 16777216) : vRange1 (.int (j : Int)) h = .ok (rangeL 0 j, none) h := by
  have e : (2 : Int) ^ 62 = 4611686018427387904 := by decide
  unfold vRange1
  rw [e]
  dsimp only
  rw [if_pos ⟨by omega, by omega⟩]
  simp
theorem rng_mem {n : Nat} {v : Val} (m : v ∈ rangeL 0 n) : ∃ j : Nat, j < n ∧ v = .int j := by
  obtain ⟨j, hj, rfl⟩ := List.mem_map.mp m
  exact ⟨j, List.mem_range.mp hj, by simp⟩
theorem nth_nat {α : Type} {l : List α} {j : Nat} {v : α} (e : l[j]? = some v) : nth l (j : Int) = some v := by
  simp [nth, e]
end GH
set_option Elab.async false
set_option linter.all false
set_option maxRecDepth 100000
set_option maxHeartbeats 1000000
set_option autoImplicit false
/-! plain lemmas for every law. -/
namespace GH
open PySem
section
variable (a b c d : Val) (l : List Val) (h : Hv)
@[simp] theorem t0 : vIx (.tup (a :: l)) (.int 0) h = .ok a h := nrfl rfl
@[simp] theorem t1 : vIx (.tup (a :: b :: l)) (.int 1) h = .ok b h := nrfl rfl
@[simp] theorem t2 : vIx (.tup (a :: b :: c :: l)) (.int 2) h = .ok c h := nrfl rfl
@[simp] theorem t3 : vIx (.tup (a :: b :: c :: d :: l)) (.int 3) h = .ok d h := nrfl rfl
@[simp] theorem m1_3 : vIx (.tup [a, b, c]) (.int (-1)) h = .ok c h := nrfl rfl
@[simp] theorem m2_3 : vIx (.tup [a, b, c]) (.int (-2)) h = .ok b h := nrfl rfl
@[simp] theorem m1_4 : vIx (.tup [a, b, c, d]) (.int (-1)) h = .ok d h := nrfl rfl
@[simp] theorem m2_4 : vIx (.tup [a, b, c, d]) (.int (-2)) h = .ok c h := nrfl rfl
end
@[simp] theorem e_neg (i : Int) (l : GH.Loc) (h : Hv) : dNeg (dC (.int i)) l h = .ok (.int (-i)) h := nrfl rfl
@[simp] theorem e_osome (d : Den) (l : GH.Loc) (h : Hv) : oSome d l h = (d l h).bind fun v h1 => match v with
  | .int i => .ok (some i) h1
  | _ => .fail := nrfl rfl
@[simp] theorem e_andv (a b : Den) (l : GH.Loc) (h : Hv) : dAndV a b l h = (a l h).bind fun v h1 => match v with
  | .bl true => b l h1
  | .bl false => .ok (.bl false) h1
  | _ => .fail := by
  unfold dAndV
  cases a l h with
  | ok v h1 => cases v <;> first | rfl | (rename_i b; cases b <;> rfl)
  | exc e h1 => rfl
  | fail => rfl
@[simp] theorem e_notv (a : Den) (l : GH.Loc) (h : Hv) : dNotV a l h = (a l h).bind fun v h1 => match v with
  | .bl c => .ok (.bl (!c)) h1
  | _ => .fail := nrfl rfl
@[simp] theorem e_orv (a b : Den) (l : GH.Loc) (h : Hv) : dOrV a b l h = (a l h).bind fun v h1 => match v with
  | .bl true => .ok (.bl true) h1
  | .bl false => b l h1
  | _ => .fail := by
  unfold dOrV
  cases a l h with
  | ok v h1 => cases v <;> first | rfl | (rename_i b; cases b <;> rfl)
  | exc e h1 => rfl
  | fail => rfl
@[simp] theorem e_chain (f f' : Val → Val → Hv → Res Val) (da db dc : Den) (l : GH.Loc) (h : Hv) : dChain f f' da db dc l h = (da l h).bind fun v h1 => (db l h1).bind fun u h2 => (f v u h2).bind fun z h3 => match z with
  | .bl true => (dc l h3).bind fun w h4 => f' u w h4
  | .bl false => .ok (.bl false) h3
  | _ => .fail := nrfl rfl
theorem add_lst {a b : List Val} {h : Hv} (e : a.length + b.length ≤ 16777216) : vAdd (.lst a) (.lst b) h = .ok (.lst (a ++ b)) h := by
  simp [vAdd, lstOf, lineN, e]
theorem add_tup {a b : List Val} {h : Hv} (e : a.length + b.length ≤ 16777216) : vAdd (.tup a) (.tup b) h = .ok (.tup (a ++ b)) h := by
  simp [vAdd, lineN, e]
theorem vRange1_ok {j : Int} {h : Hv} (h0 : 0 ≤ j) (h1 : j ≤ 16777216) : vRange1 (.int j) h = .ok (rangeL 0 j.toNat, none) h := by
  have e : (2 : Int) ^ 62 = 4611686018427387904 := by decide
  unfold vRange1
  rw [e]
  dsimp only
  rw [if_pos ⟨by omega, h1⟩]
theorem vRange2_ok {a b : Int} {h : Hv} (h0 : -1000000 ≤ a) (h3 : a ≤ 1000000) (h1 : b ≤ 16777216) (h2 : a ≤ b) (h4 : b - a ≤ 16777216) : vRange2 (.int a) (.int b) h = .ok (rangeL a (b - a).toNat, none) h := by
  have e : (2 : Int) ^ 62 = 4611686018427387904 := by decide
  unfold vRange2
  rw [e]
  dsimp only
  rw [if_pos (by constructor <;> first | omega | (constructor <;> omega))]
theorem cut_take {α : Type} (l : List α) (n : Nat) : cut l none (some (n : Int)) = l.take n := by
  unfold cut
  rw [HT.sIx_nat, HT.sIx_none]
  simp only [List.drop_zero, Nat.sub_zero]
  by_cases h : n ≤ l.length
  · rw [Nat.min_eq_left h]
  · rw [Nat.min_eq_right (by omega), List.take_of_length_le (Nat.le_refl _), List.take_of_length_le (by omega)]
theorem cut_drop {α : Type} (l : List α) (n : Nat) : cut l (some (n : Int)) none = l.drop n := by
  unfold cut
  rw [HT.sIx_nat, HT.sIx_none]
  by_cases h : n ≤ l.length
  · rw [Nat.min_eq_left h]
    exact List.take_of_length_le (by simp)
  · rw [Nat.min_eq_right (by omega), List.drop_of_length_le (Nat.le_refl _), List.drop_of_length_le (by omega)]
    simp
section
variable (h : Hv) (A B C : Ob)
@[simp] theorem g0 : (h ++ [A, B])[h.length]? = some A := by simp
@[simp] theorem g1 : (h ++ [A, B])[h.length + 1]? = some B := by
  rw [List.getElem?_append_right (by omega)]; simp
@[simp] theorem s0 : (h ++ [A, B]).set h.length C = h ++ [C, B] := by simp
@[simp] theorem s1 : (h ++ [A, B]).set (h.length + 1) C = h ++ [A, C] := by
  rw [List.set_append_right _ _ (by omega)]; simp
end
theorem append_ref {i : Nat} {l : List Val} {v : Val} {h : Hv} (e : h[i]? = some (.lst l)) (hl : l.length < 16777216) : vAppend (.ref i) v h = .ok .non (h.set i (.lst (l ++ [v]))) := by
  simp [vAppend, e, lineN, hl]
theorem pop_ref {i : Nat} {l : List Val} {v : Val} {h : Hv} (e : h[i]? = some (.lst (l ++ [v]))) : vPop (.ref i) h = .ok v (h.set i (.lst l)) := by
  simp [vPop, e]
theorem isLst_ref {i : Nat} {l : List Val} {h : Hv} (e : h[i]? = some (.lst l)) : isLst h (.ref i) = true := by
  simp [isLst, lstOf, e]
theorem tru_ref {i : Nat} {l : List Val} {h : Hv} (e : h[i]? = some (.lst l)) : vTru (.ref i) h = .ok (!l.isEmpty) h := by
  simp [vTru, seqOf, lstOf, e]
@[simp] theorem tru_tup {l : List Val} {h : Hv} : vTru (.tup l) h = .ok (!l.isEmpty) h := by
  simp [vTru, seqOf]
theorem len_ref {i : Nat} {l : List Val} {h : Hv} (e : h[i]? = some (.lst l)) : vLen (.ref i) h = .ok (.int l.length) h := by
  simp [vLen, seqOf, lstOf, e]
theorem pv_inj {p q : List Int} (h : pv p = pv q) : p = q := by
  have h : p.map Val.int = q.map Val.int := by simpa using h
  exact List.map_inj_right (fun a b e => by simpa using e) |>.mp h
theorem unpv : ∀ l : List Val, (∀ v ∈ l, ∃ p, v = pv p) → ∃ L : List (List Int), l = L.map pv
  | [], _ => ⟨[], rfl⟩
  | v :: l, h => by
    obtain ⟨p, rfl⟩ := h v (List.mem_cons_self ..)
    obtain ⟨L, rfl⟩ := unpv l fun v hv => h v (List.mem_cons_of_mem _ hv)
    exact ⟨p :: L, rfl⟩
theorem pds_ints (p : List Int) : pds (p.map .int) = p.map PyData.int := by
  induction p with
  | nil => rfl
  | cons a p ih => simp only [List.map_cons, pds, pd, ih]
theorem alike_pv (p q : List Int) : PySem.W.alike (pd (pv p)) (pd (pv q)) = true := by
  simp only [pd, PySem.W.alike, pds_ints, PySem.W.alike_ints]
theorem mem_pv {p : List Int} {l : List (List Int)} : pv p ∈ l.map pv ↔ p ∈ l := by
  constructor
  · intro h
    obtain ⟨q, hq, e⟩ := List.mem_map.mp h
    rw [← pv_inj e]; exact hq
  · exact fun h => List.mem_map.mpr ⟨p, h, rfl⟩
theorem sorted_pv {l : List (List Int)} (hd : l = [] ∨ ∃ r, l = [] :: r) (h : Hv) : ∃ L : List (List Int), (∀ q, q ∈ L ↔ q ∈ l) ∧ L.length = l.length ∧ vSorted (.lst (l.map pv)) h = .ok (.lst (L.map pv)) h := by
  have ok : sortOk (l.map pv) = true := by
    unfold sortOk
    have h1 := okVs_pvs l
    have h2 := dpVs_pvs l
    have h3 : ((l.map pv).all fun a => (l.map pv).all fun b => PySem.W.alike (pd a) (pd b)) = true := by
      refine List.all_eq_true.mpr fun a ha => List.all_eq_true.mpr fun b hb => ?_
      obtain ⟨p, _, rfl⟩ := List.mem_map.mp ha
      obtain ⟨q, _, rfl⟩ := List.mem_map.mp hb
      exact alike_pv p q
    rw [h1, h3]
    have h4 : decide (dpVs (l.map pv) ≤ 190) = true := decide_eq_true (by omega)
    rw [h4]
    rcases hd with rfl | ⟨r, rfl⟩
    · rfl
    · simp
      exact .inr rfl
  have perm : (sortV (l.map pv)).Perm (l.map pv) := List.mergeSort_perm _ _
  obtain ⟨L, hL⟩ := unpv (sortV (l.map pv)) fun v hv => by
    obtain ⟨p, _, e⟩ := List.mem_map.mp (perm.mem_iff.mp hv)
    exact ⟨p, e.symm⟩
  refine ⟨L, fun q => ?_, ?_, ?_⟩
  · rw [← mem_pv (l := l), ← perm.mem_iff, hL, mem_pv]
  · have := perm.length_eq
    rw [hL] at this
    simpa using this
  · simp [vSorted, lstOf, ok, hL]
/-! comprehensions whose parts are known and change nothing -/
theorem lcL_eq {t : Tg} {c : DenG Bool} {e : Den} {s : Src} {l : GH.Loc} {h : Hv} (f : Val → Bool) (g : Val → Val) (hs : srcOk s h) : ∀ (items acc : List Val), (∀ x ∈ items, ∃ l1, t x l h = .ok l1 h ∧ c l1 h = .ok (f x) h ∧ (f x = true → e l1 h = .ok (g x) h)) → lcL t c e s items acc l h = .ok (acc ++ (items.filter f).map g) h
  | [], acc, _ => by simp [lcL, hs]
  | x :: r, acc, q => by
    obtain ⟨l1, e1, e2, e3⟩ := q x (List.mem_cons_self ..)
    have ih := fun acc => lcL_eq (l := l) f g hs r acc fun y hy => q y (List.mem_cons_of_mem _ hy)
    simp only [lcL, if_pos hs, e1, e2]
    cases ef : f x with
    | true => simp [e3 ef, ih, ef]
    | false => simp [ih, ef]
theorem lcL_map {t : Tg} {e : Den} {s : Src} {l : GH.Loc} {h : Hv} (g : Val → Val) (hs : srcOk s h) (items acc : List Val) (q : ∀ x ∈ items, ∃ l1, t x l h = .ok l1 h ∧ e l1 h = .ok (g x) h) : lcL t dYes e s items acc l h = .ok (acc ++ items.map g) h := by
  rw [lcL_eq (fun _ => true) g hs items acc fun x hx => ?_]
  · congr 2
    rw [List.filter_eq_self.mpr fun _ _ => rfl]
  · obtain ⟨l1, e1, e2⟩ := q x hx
    exact ⟨l1, e1, rfl, fun _ => e2⟩
theorem lcB_map {t : Tg} {e : Den} {s : Src} {l : GH.Loc} {h : Hv} (g : Val → Val) (hs : srcOk s h) : ∀ (items acc : List Val), (∀ x ∈ items, ∃ l1, t x l h = .ok l1 h ∧ e l1 h = .ok (g x) h) → acc.length + items.length ≤ 16777216 → lcB t dYes e s items acc l h = .ok (acc ++ items.map g) h
  | [], acc, _, _ => by simp [lcB, hs]
  | x :: r, acc, q, n => by
    obtain ⟨l1, e1, e2⟩ := q x (List.mem_cons_self ..)
    simp only [List.length_cons] at n
    have hl : acc.length < lineN := by unfold lineN; omega
    simp only [lcB, if_pos hs, e1, e_yes, if_true, e2, if_pos hl]
    rw [lcB_map g hs r (acc ++ [g x]) (fun y hy => q y (List.mem_cons_of_mem _ hy)) (by simp; omega)]
    simp
theorem lc2L_map {t t1 : Tg} {di1 : DenG Src} {e : Den} {vs1 : List Nat} {s : Src} {l : GH.Loc} {h : Hv} (F : Val → List Val) (hs : srcOk s h) : ∀ (items acc : List Val), (∀ x ∈ items, ∃ l1 s1, t x l h = .ok l1 h ∧ di1 l1 h = .ok s1 h ∧ ∀ acc : List Val, acc.length + (F x).length ≤ 16777216 → lcB t1 dYes e s1 s1.1 acc (wipeL l1 vs1) h = .ok (acc ++ F x) h) →
    acc.length + (items.flatMap F).length ≤ 16777216 → lc2L t dYes di1 t1 dYes e vs1 s items acc l h = .ok (acc ++ items.flatMap F) h
  | [], acc, _, _ => by simp [lc2L, hs]
  | x :: r, acc, q, n => by
    obtain ⟨l1, s1, e1, e2, e3⟩ := q x (List.mem_cons_self ..)
    simp only [List.flatMap_cons, List.length_append] at n
    simp only [lc2L, if_pos hs, e1, e_yes, if_true, e2]
    rw [e3 acc (by omega)]
    simp only [Res.bind_ok]
    rw [lc2L_map F hs r (acc ++ F x) (fun y hy => q y (List.mem_cons_of_mem _ hy)) (by rw [List.length_append]; omega)]
    simp
theorem dcL_map {t : Tg} {ek e : Den} {s : Src} {l : GH.Loc} {h : Hv} (g : Val → Val × Val) (hs : srcOk s h) : ∀ (items : List Val) (acc : List (Val × Val)), (∀ x ∈ items, ∃ l1, t x l h = .ok l1 h ∧ ek l1 h = .ok (g x).1 h ∧ e l1 h = .ok (g x).2 h ∧ (keyOf (g x).1).isSome = true) → dcL t dYes ek e s items acc l h = .ok ((items.map g).foldl (fun a p => dPut a p.1 p.2) acc) h
  | [], acc, _ => by simp [dcL, hs]
  | x :: r, acc, q => by
    obtain ⟨l1, e1, e2, e3, e4⟩ := q x (List.mem_cons_self ..)
    obtain ⟨kk, e5⟩ := Option.isSome_iff_exists.mp e4
    simp only [dcL, if_pos hs, e1, e_yes, if_true, e2, e3, e5]
    rw [dcL_map g hs r _ fun y hy => q y (List.mem_cons_of_mem _ hy)]
    rfl
end GH
set_option Elab.async false
set_option linter.all false
set_option maxRecDepth 100000
set_option maxHeartbeats 4000000
set_option autoImplicit false
/-! sorted(d) of text keys, d.pop(k, x), xs.reverse(), str(n), except C as e: return A if isinstance(e, D) else B. -/
namespace GH
open PySem PySem.Spec PyProof.Rows L2
theorem mkT_ok {vs : List Val} {h : Hv} (e : vs.length ≤ 16777216) : mkTup vs h = .ok (.tup vs) h := by simp [mkTup, lineN, e]
theorem mkL_ok {vs : List Val} {h : Hv} (e : vs.length ≤ 16777216) : mkLst vs h = .ok (.lst vs) h := by simp [mkLst, lineN, e]
theorem leS_trans (a b c : Str) (h1 : leS a b = true) (h2 : leS b c = true) : leS a c = true := by
  simp only [leS, decide_eq_true_eq] at *
  exact List.le_trans h1 h2
theorem leS_total (a b : Str) : (leS a b || leS b a) = true := by
  simp only [leS, Bool.or_eq_true, decide_eq_true_eq]
  exact List.le_total _ _
theorem leS_anti {a b : Str} (h1 : leS a b = true) (h2 : leS b a = true) : a = b := by
  simp only [leS, decide_eq_true_eq] at h1 h2
  have := List.le_antisymm h1 h2
  cases a; cases b
  simp only [Str.mk.injEq]
  exact Array.toList_inj.mp this
theorem sortS_of {ys ks : List Str} (p : ys.Perm ks) (h : ys.Pairwise fun a b => leS a b = true) : ys = ks.mergeSort leS :=
  List.Perm.eq_of_pairwise (le := fun a b => leS a b = true) (fun _ _ _ _ h1 h2 => leS_anti h1 h2) h (List.pairwise_mergeSort leS_trans leS_total ks) (p.trans (List.mergeSort_perm ks leS).symm)
theorem lt_cps {a b : Str} (h : ltCps b.cps.toList a.cps.toList = false) : leS a b = true := by
  rw [PyProof.Rows.ltCps_eq] at h
  simp only [leS, decide_eq_true_eq]
  exact List.not_lt.mp (by simpa using h)
theorem rising_pw : ∀ {ss : List Str} {p : Str}, risingS p ss = true → (p :: ss).Pairwise fun a b => leS a b = true
  | [], p, _ => List.pairwise_singleton _ _
  | x :: r, p, h => by
    simp only [risingS, Bool.and_eq_true, Bool.not_eq_true'] at h
    have ih := rising_pw h.2
    refine List.pairwise_cons.mpr ⟨fun b hb => ?_, ih⟩
    have h1 := lt_cps h.1
    rcases List.mem_cons.mp hb with rfl | hb
    · exact h1
    · exact leS_trans _ _ _ h1 ((List.pairwise_cons.mp ih).1 b hb)
theorem sorted_pw {ys : List Str} (h : sortedS ys = true) : ys.Pairwise fun a b => leS a b = true := by
  cases ys with
  | nil => exact .nil
  | cons x r => exact rising_pw h
section
variable {X : Cx} {W : WX}
/-- sorted(d), the keys texts -/
noncomputable def sortStr (ys : List (List Nat)) : List Val := ((ys.map sOf).mergeSort leS).map fun s => Val.str s.cps.toList
noncomputable def vSortDic (v : Val) (h : Hv) : Res Val := match dicOf h v with
  | some l => match strsOf (l.map (·.1)) with
    | some ys => if ys.length < 64 then .ok (.lst (sortStr ys)) h else .fail
    | none => .fail
  | none => .fail
theorem keys_strs {K : PySem.W.Frag} {g : Gh} {H : Hp} : ∀ {l : List (Val × Val)} {ks : List (Key × V)} {ys : List (List Nat)}, DR K g H l ks → strsOf (l.map (·.1)) = some ys → ks.map (·.1) = (ys.map sOf).map Sum.inr
  | [], ks, ys, r, e => by
    simp only [List.map_nil, strsOf, Option.some.injEq] at e
    subst e
    rw [r.nilInv]
    rfl
  | p :: l, ks, ys, r, e => by
    obtain ⟨q, ks', rfl, e1, _, t⟩ := r.inv
    simp only [List.map_cons] at e
    cases hp : p.1 with
    | str s =>
      rw [hp] at e e1
      simp only [strsOf, Option.map_eq_some_iff] at e
      obtain ⟨ys', e2, rfl⟩ := e
      simp only [keyOf, Option.some.injEq] at e1
      simp only [List.map_cons, keys_strs t e2, ← e1]
    | _ => rw [hp] at e; simp [strsOf] at e
theorem c1_sortDic (hc : X.calm = true) : C1 X (.builtin "sorted") vSortDic := ⟨_, call_sortedD hc, fun W g H h σ v x Q R r A => by
  unfold vSortDic at A
  split at A
  · rename_i l hl
    split at A
    · rename_i ys hy
      split at A
      · rename_i hz
        obtain ⟨i, a, ks, rfl, rfl, hm, hi, ha, d⟩ := dicOf_ok R r hl
        refine ⟨a, ks, ys.map sOf, rfl, .inl ha, keys_strs d hy, by rw [List.length_map]; exact hz, fun zs p pm so np => ?_⟩
        obtain ⟨E5, R5⟩ := R.grow (o := .lst (zs.map V.str)) np
        refine A g _ (.ref p) E5 R5 ?_
        simp only [VR]
        refine ⟨p, _, rfl, R.fresh np, upd_same, ?_⟩
        rw [sortS_of pm (sorted_pw so)]
        exact VRs_strs _
      · exact A.elim
    · exact A.elim
  · exact A.elim⟩
/-- str(n) -/
def vStrI (v : Val) (h : Hv) : Res Val := match v with
  | .int i => if i.natAbs.log2 < 1920 then .ok (.str (Str.ofString (toString i)).cps.toList) h else .fail
  | _ => .fail
theorem c1_str : C1 X (.type "str") vStrI := ⟨_, call_str_int, fun W g H h σ v x Q R r A => by
  unfold vStrI at A
  split at A
  · split at A
    · rename_i hz
      simp only [VR] at r
      subst r
      refine ⟨_, rfl, hz, A g H _ Ext.refl R ?_⟩
      simp only [VR]
      exact congrArg V.str (by generalize Str.ofString _ = s; cases s; rfl)
    · exact A.elim
  · exact A.elim⟩
/-- x.reverse() -/
def vReverse (x : Val) (h : Hv) : Res Val := match x with
  | .ref i => match h[i]? with
    | some (.lst l) => .ok .non (h.set i (.lst l.reverse))
    | _ => .fail
  | _ => .fail
theorem VRs.rev {K : PySem.W.Frag} {g : Gh} {H : Hp} : ∀ {l : List Val} {xs : List V}, VRs K g H l xs → VRs K g H l.reverse xs.reverse
  | [], xs, r => by rw [show xs = [] from r]; exact VRs.nil
  | v :: l, xs, r => by
    obtain ⟨x, r', rfl, rx, rr⟩ := r
    rw [List.reverse_cons, List.reverse_cons]
    exact (VRs.rev rr).append (.one rx)
theorem ge_reverse {o : Expr} {dx : Den} {apos cpos : Pos} (ho : GE X W o dx) (hbase : attributeBase o "reverse" X.env (eval o X.env) = eval o X.env := by rfl) (hline : (apos.endLine == cpos.line) = true := by rfl) : GE X W (.Call (.Attribute o "reverse" apos) [] [] cpos) (dMeth0 isLst vReverse dx) :=
  ge_meth0 PySem.F.plainAttrs_list PySem.F.slot_list_reverse PySem.F.type_list_reverse mt_reverse (fun g H h v x R r e => lst_ty R r e) (fun W g H h σ v x Q R rv A => by
    unfold vReverse at A
    split at A
    · rename_i i
      split at A
      · rename_i l hl
        simp only [VR] at rv
        obtain ⟨a, rfl, hm⟩ := rv
        obtain ⟨xs, e1, rs⟩ := ref_at R hl hm
        obtain ⟨E, R1⟩ := R.write (ob := .lst l.reverse) (o' := .lst xs.reverse) hm fun E => ⟨_, upd_same, (rs.ext R E).rev⟩
        exact ⟨a, xs, rfl, rfl, e1, A g _ .non E R1 (by simp only [VR])⟩
      · exact A.elim
    · exact A.elim) ho hbase hline
/-- d.pop(k, x) -/
def dPop2 (o e f : Den) : Den := fun l h => (o l h).bind fun x h1 => if isDic h1 x = true then (e l h1).bind fun k h2 => (f l h2).bind fun z h3 => (match x with
  | .ref i => (match h3[i]?, keyOf k with
    | some (.dic m), some _ => (match dGet m k with
      | some v => .ok v (h3.set i (.dic (dDrop m k)))
      | none => .ok z h3)
    | _, _ => .fail)
  | _ => .fail) else .fail
theorem ge_pop2 {o e f : Expr} {dx de df : Den} {apos cpos : Pos} (ho : GE X W o dx) (he : GE X W e de) (hf : GE X W f df) (m : M2 X o "pop" apos e f cpos := by exact ⟨rfl, rfl, rfl, rfl⟩) : GE X W (.Call (.Attribute o "pop" apos) [e, f] [] cpos) (dPop2 dx de df) := by
  refine PE.imp (pe_dpop2 ho he hf m) fun σ H Q ⟨g, l, h, S, R, A⟩ => ?_
  refine tG_of S R A fun v h1 g1 H1 x E S1 R1 r1 A1 => ?_
  split at A1
  · rename_i ok1
    obtain ⟨a, rfl, hd⟩ := dic_is R1 r1 ok1
    refine ⟨a, rfl, hd, ?_⟩
    refine tG_of S1 R1 A1 fun u h2 g2 H2 y E2 S2 R2 r2 A2 => ?_
    refine tG_of S2 R2 A2 fun w h3 g3 H3 z E3 S3 R3 r3 A3 => ?_
    split at A3
    · rename_i i
      split at A3
      · rename_i mm kk hl hk
        have rv := (r1.ext R1 E2).ext R2 E3
        simp only [VR] at rv
        obtain ⟨a', e1, hm⟩ := rv
        cases e1
        obtain ⟨ks, ha, d⟩ := ref_at R3 hl hm
        have ry := r2.ext R2 E3
        obtain ⟨d1, d2⟩ := DR.get hk d
        obtain ⟨E4, R4⟩ := R3.write (ob := .dic (dDrop mm u)) (o' := .dK (dropK ks kk)) hm fun E => ⟨_, upd_same, DR.drop hk ⟨d.1, d.2.ext R3 E⟩⟩
        refine ⟨ks, kk, ha, key_V ry hk, fun v0 hv0 => ?_, fun hn => ?_⟩
        · cases e : dGet mm u with
          | none => rw [d2 e] at hv0; cases hv0
          | some v1 =>
            rw [e] at A3
            obtain ⟨x1, e2, r4⟩ := d1 v1 e
            rw [e2] at hv0
            cases hv0
            exact A3 g3 _ _ E4 R4 (r4.ext R3 E4)
        · cases e : dGet mm u with
          | some v1 =>
            obtain ⟨x1, e2, r4⟩ := d1 v1 e
            rw [e2] at hn
            cases hn
          | none =>
            rw [e] at A3
            exact A3 g3 H3 _ Ext.refl R3 r3
      · exact A3.elim
    · exact A3.elim
  · exact A1.elim
end
end GH
set_option Elab.async false
set_option linter.all false
set_option maxRecDepth 100000
set_option maxHeartbeats 4000000
set_option autoImplicit false
/-! try: body; except C as e: return A if isinstance(e, D) else B. -/
namespace GH
open PySem PySem.Spec PyProof.Rows L2
section
variable {X : Cx} {W : WX}
/-- only C is raised; its instances are (not) instances of D -/
def sTryIs (i : Nat) (c : List Nat) (ans : Bool) (body : Stm) (A B : List Nat) : Stm := fun l h => match body l h with
  | .exc e l1 h1 => if e.c = c ∧ e.fs = [] ∧ i < l1.length then .rt (.str (if ans then A else B)) h1 else .fail
  | r => r
theorem gs_tryIs (c : List Nat) (ans : Bool) (A B : List Nat) {i : Nat} {x y nm xA xB xI : Str} {cy : Value} {body : List Stmt} {np np2 np3 np4 pos pos' pos2 pos3 pos4 rp cp : Pos} {j1 j2 : Nat} {db : Stm}
    (hs : X.stack = X.env :: X.outer) (hf : X.env.frame = some X.env.locals) (hN : X.N.Nodup) (hi : X.N[i]? = some nm) (hln : X.env.kindOf nm = some .local)
    (hc : Names X x (.ref (clsA X.K c))) (tk : Takes X W) (hm : PySem.W.exmOne X.K (.ref (clsA X.K c)) (.ref (clsA X.K c)) = some true) (EC : ExcC X.K (clsA X.K c))
    (hk : PySem.W.kitOne X.K (.ref (clsA X.K c)) cy = some ans) (hmy : X.mg y = some cy) (hcy : ∃ a, cy = .ref a) (hfi : X.mg xI = none) (hgi : Gl X xI) (hgy : Gl X y)
    (hb : ∀ (W' : WX) (pn : List (Addr × Obj)) (xe : Value → Shared → Prop), Takes (X.tr pn xe) W' → PassesOwn (model X.prog X.w) X.A X.env xe → GSs (X.tr pn xe) W' body db)
    (hdy : (y == ("__debug__" : Str)) = false := by decide +kernel) (hdn : (nm == ("__debug__" : Str)) = false := by decide +kernel) (hdc : (nm == ("__classdict__" : Str)) = false := by decide +kernel)
    (hs1 : starEach [.Name nm np2, .Name y np3] X.env = (false, eval (.Name nm np2) X.env) :: starEach [.Name y np3] X.env := by rfl) (hs2 : starEach [.Name y np3] X.env = (false, eval (.Name y np3) X.env) :: starEach [] X.env := by rfl)
    (hpl : (backTo cp (starEach [.Name y np3] X.env)).any (·.1) = false := by rfl) (hA : xA = sOf A := by rfl) (hB : xB = sOf B := by rfl) (hI : xI = ("isinstance" : Str) := by rfl) :
    GS X W (.Try body [.ExceptHandler (some (.Name x np)) (some nm) [.Return (some (.IfExp (.Call (.Name xI np4) [.Name nm np2, .Name y np3] [] cp) (.Constant (.str xA) j1 pos2) (.Constant (.str xB) j2 pos3) rp)) pos4] pos'] [] [] pos) (sTryIs i c ans db A B) := by
  subst hA hB hI
  refine PS.imp (ps_try_as (i := i) (tb := fun W' => tS X.K W' db)
    (ts := fun a cls d => fun D σ H => cls = .ref (clsA X.K c) ∧ d = none ∧ σ[i]? = some (some (.ref a)) ∧ D.rt (.str (sOf (if ans then A else B))) H) hs hf hN hi hln hc tk hb (fun a oe cls d pn hz hfd => ?_)) fun D σ H ⟨g, l, h, S, R, AA⟩ => ?_
  · refine ⟨fun pins s σ H D I ⟨e1, e2, e3, q⟩ => ?_⟩
    subst e1 e2
    obtain ⟨ay, rfl⟩ := hcy
    have hy : PE (X.suite a ((a, oe) :: pn)) (.Name y np3) (tC (.ref ay)) := pe_glob hgy hmy rfl hdy
    have hv : PE (X.suite a ((a, oe) :: pn)) (.Name nm np2) (tVar i) := pe_var hi (.inl hln) hdn hdc
    have ht := pe_callB (X := X.suite a ((a, oe) :: pn)) (p := np4) (pos := cp) (call_isE (pn := pn) EC hz hfd) hgi hfi (by decide +kernel) (pa_cons hv (pa_cons hy pa_nil hs2) hs1) (by decide +kernel) (by decide +kernel) hs1 hpl
    refine (pss_one (ps_ret (pe_ifExp (pt_val ht) pe_str pe_str))).run pins s σ H D I ?_
    refine ⟨_, e3, ?_⟩
    refine ⟨_, _, ans, rfl, ?_, hk, ?_⟩
    · intro u hu; exact hu
    · refine ⟨ans, rfl, ?_⟩
      cases ans with
      | true => exact q
      | false => exact q
  · refine ⟨g, l, h, S, R, ?_⟩
    unfold sTryIs at AA
    cases e : db l h with
    | nx l1 h1 => rw [e] at AA; exact AA
    | bk l1 h1 => rw [e] at AA; exact AA
    | ct l1 h1 => rw [e] at AA; exact AA
    | rt l1 h1 => rw [e] at AA; exact AA
    | fail => rw [e] at AA; exact AA
    | exc x1 l1 h1 =>
      rw [e] at AA
      simp only at AA
      split at AA
      · rename_i hcc
        intro g' H' σ' cls d E R' S' re
        obtain ⟨k1, k2⟩ := re
        rw [hcc.1] at k1
        rw [hcc.2.1] at k2
        simp only at k2
        subst k1 k2
        have hlen : i < σ'.length := by rw [← S'.len]; exact hcc.2.2
        refine ⟨true, hm, fun _ a na => ⟨rfl, rfl, by rw [List.getElem?_set_self hlen], ?_⟩, fun z => by cases z⟩
        exact AA g' H' _ E R' (by simp only [VR])
      · exact AA.elim
end
end GH
set_option Elab.async false
set_option linter.all false
set_option maxRecDepth 100000
set_option maxHeartbeats 4000000
set_option autoImplicit false
/-! what the head tells of tuples of texts, of classes of exceptions. -/
namespace GH
open PySem PySem.Spec PyProof.Rows L2
theorem VRs_txt {K : PySem.W.Frag} {g : Gh} {H : Hp} : ∀ ws : List (List Nat), VRs K g H (ws.map .str) ((ws.map fun s => He.Dv.str (sOf s)).map (He.Dv.v K))
  | [] => VRs.nil
  | w :: ws => VRs.cons (by simp only [VR]; rfl) (VRs_txt ws)
theorem tup_txt {K : PySem.W.Frag} {x : Str} (ws : List (List Nat)) (h : He.tupB K x (ws.map fun s => He.Dv.str (sOf s)) = true) (g : Gh) (H : Hp) : VR K g H (.tup (ws.map .str)) (.ref (He.ga K x)) := by
  simp only [VR]
  exact ⟨_, _, rfl, He.tupB_ok h H, VRs_txt ws⟩
def excCB (K : PySem.W.Frag) (D : Addr) : Bool :=
  decide (PySem.W.findIn K (.ref D) "__getattribute__" = some (some (.builtin "BaseException.__getattribute__"))) && decide (PySem.W.findIn K (.ref D) "__getattr__" = some none) && decide (PySem.W.subIn K (.ref D) (.type "BaseException") = some true) &&
  PySem.W.hasDictIn K D && decide (PySem.W.findIn K (.ref D) "__class__" = some (some (.builtin "object.__class__"))) && decide (PySem.W.specialIn K (.builtin "object.__class__") "__get__" = some (some (.builtin "getset_descriptor.__get__"))) &&
  decide (PySem.W.takesIn K (.builtin "object.__class__") = some true) && decide (PySem.W.mroIn K D (.type "object") = some true)
theorem excCB_ok {K : PySem.W.Frag} {D : Addr} (h : excCB K D = true) : ExcC K D := by
  unfold excCB at h
  simp only [Bool.and_eq_true, decide_eq_true_eq] at h
  obtain ⟨⟨⟨⟨⟨⟨⟨h1, h2⟩, h3⟩, h4⟩, h5⟩, h6⟩, h7⟩, h8⟩ := h
  exact ⟨h1, h2, h3, h4, h5, h6, h7, h8⟩
def kitB (K : PySem.W.Frag) (C D : Addr) (b : Bool) : Bool := decide (PySem.W.kitOne K (.ref C) (.ref D) = some b)
theorem kitB_ok' {K : PySem.W.Frag} {C D : Addr} {b : Bool} (h : kitB K C D b = true) : PySem.W.kitOne K (.ref C) (.ref D) = some b := of_decide_eq_true h
end GH
set_option Elab.async false
set_option linter.all false
set_option maxRecDepth 100000
set_option maxHeartbeats 1000000
set_option autoImplicit false
/-! lists of texts, sorted; results as equations. -/
namespace GH
open PySem
abbrev Tx := List Nat
theorem eq_of {α : Type} {r : Res α} {a : α} {h : Hv} (k : ok r fun v h' => v = a ∧ h' = h) : r = .ok a h := by
  obtain ⟨v, h', e, rfl, rfl⟩ := ok_eq k
  exact e
@[simp] theorem sOf_cps (s : Tx) : (sOf s).cps.toList = s := rfl
theorem cps_sOf (s : Str) : sOf s.cps.toList = s := by cases s; rfl
def srt (L : List Tx) : List Tx := ((L.map sOf).mergeSort leS).map fun s => s.cps.toList
theorem sortStr_srt (L : List Tx) : sortStr L = (srt L).map .str := by simp [sortStr, srt]
theorem srt_sOf (L : List Tx) : (srt L).map sOf = (L.map sOf).mergeSort leS := by
  simp only [srt, List.map_map]
  conv => rhs; rw [← List.map_id ((L.map sOf).mergeSort leS)]
  rfl
theorem map_sOf_inj {A B : List Tx} (e : A.map sOf = B.map sOf) : A = B := List.map_inj_right (fun _ _ e => sOf_inj e) |>.mp e
theorem srt_perm {A B : List Tx} (p : A.Perm B) : srt A = srt B := by
  unfold srt
  rw [sortS_perm (p.map sOf)]
theorem srt_perm_self (A : List Tx) : (srt A).Perm A := by
  have p := List.mergeSort_perm (A.map sOf) leS
  rw [← srt_sOf] at p
  have q := p.map fun s => s.cps.toList
  simpa [List.map_map, Function.comp_def] using q
theorem srt_mem {A : List Tx} {x : Tx} : x ∈ srt A ↔ x ∈ A := (srt_perm_self A).mem_iff
theorem srt_len (A : List Tx) : (srt A).length = A.length := (srt_perm_self A).length_eq
theorem srt_nodup {A : List Tx} (n : A.Nodup) : (srt A).Nodup := (srt_perm_self A).nodup_iff.mpr n
theorem srt_nil : srt [] = [] := List.length_eq_zero_iff.mp (srt_len [])
theorem srt_id {A : List Tx} (h : (A.map sOf).Pairwise fun a b => leS a b = true) : srt A = A := by
  apply map_sOf_inj
  rw [srt_sOf]
  exact (sortS_of (List.Perm.refl _) h).symm
/-- lists of different texts with the same ones -/
theorem srt_same {A B : List Tx} (na : A.Nodup) (nb : B.Nodup) (h : ∀ x, x ∈ A ↔ x ∈ B) : srt A = srt B := srt_perm ((List.perm_ext_iff_of_nodup na nb).mpr h)
theorem strsOf_map : ∀ L : List Tx, strsOf (L.map .str) = some L
  | [] => rfl
  | x :: L => by simp [strsOf, strsOf_map L]
abbrev TxOk (L : List Tx) : Prop := ∀ x ∈ L, okV (.str x) = true
theorem okVs_txt : ∀ {L : List Tx}, TxOk L → okVs (L.map .str) = true
  | [], _ => rfl
  | x :: L, h => by
    simp only [List.map_cons, okVs, h x (List.mem_cons_self ..), okVs_txt fun y hy => h y (List.mem_cons_of_mem _ hy), Bool.and_self]
theorem dpVs_txt : ∀ L : List Tx, dpVs (L.map .str) = 0
  | [] => rfl
  | x :: L => by simp [dpVs, dpV, dpVs_txt L]
theorem vSorted_txt {L : List Tx} (o : TxOk L) (h : Hv) : vSorted (.lst (L.map .str)) h = .ok (.lst ((srt L).map .str)) h := by
  have ok : sortOk (L.map .str) = true := by
    unfold sortOk
    rw [okVs_txt o, dpVs_txt]
    have h3 : ((L.map Val.str).all fun a => (L.map Val.str).all fun b => PySem.W.alike (pd a) (pd b)) = true := by
      refine List.all_eq_true.mpr fun a ha => List.all_eq_true.mpr fun b hb => ?_
      obtain ⟨p, _, rfl⟩ := List.mem_map.mp ha
      obtain ⟨q, _, rfl⟩ := List.mem_map.mp hb
      simp [pd, PySem.W.alike]
    have h4 : ((L.map Val.str).all isPlainK) = true := List.all_eq_true.mpr fun a ha => by
      obtain ⟨p, _, rfl⟩ := List.mem_map.mp ha
      rfl
    rw [h3, h4]
    simp
  have e : sortV (L.map .str) = (srt L).map .str := by
    unfold sortV
    have q := PySem.W.dataLe_str sOf
    have m : (L.mergeSort fun a b => leS (sOf a) (sOf b)).map Val.str = (L.map Val.str).mergeSort (PySem.W.dataLe false pd) := List.map_mergeSort fun a ha b hb => by
      have z := congrFun (congrFun q a) b
      rw [show leS (sOf a) (sOf b) = decide ((sOf a).cps.toList ≤ (sOf b).cps.toList) from rfl, ← z]
      rfl
    rw [← m]
    congr 1
    apply map_sOf_inj
    rw [srt_sOf]
    exact List.map_mergeSort fun a ha b hb => rfl
  simp [vSorted, lstOf, ok, e]
theorem addS_mem {L : List Str} {x y : Str} : y ∈ addS L x ↔ y ∈ L ∨ y = x := by
  unfold addS
  split
  · rename_i h
    constructor
    · exact .inl
    · rintro (q | rfl)
      · exact q
      · exact h
  · simp
theorem ddS_aux : ∀ (xs L : List Str), L.Nodup → (xs.foldl addS L).Nodup ∧ ∀ y, y ∈ xs.foldl addS L ↔ y ∈ L ∨ y ∈ xs
  | [], L, n => ⟨n, by simp⟩
  | x :: xs, L, n => by
    have n2 : (addS L x).Nodup := by
      unfold addS
      split
      · exact n
      · rename_i h
        refine List.nodup_append.mpr ⟨n, by simp, ?_⟩
        intro a ha b hb
        rw [List.mem_singleton.mp hb]
        rintro rfl
        exact h ha
    obtain ⟨a, b⟩ := ddS_aux xs (addS L x) n2
    refine ⟨a, fun y => ?_⟩
    rw [List.foldl_cons, b, addS_mem, List.mem_cons, or_assoc]
theorem vSortSet_txt {L M : List Tx} {v : Val} {h : Hv} (e : seqOf h v = some (L.map .str)) (n : L.length < 4000) (nd : M.Nodup) (hm : ∀ x, x ∈ M ↔ x ∈ L) : vSortSet v h = .ok (.lst ((srt M).map .str)) h := by
  have z : sortSet L = (srt M).map .str := by
    unfold sortSet
    obtain ⟨a, b⟩ := ddS_aux (L.map sOf) [] .nil
    have p : (ddS (L.map sOf)).Perm (M.map sOf) := by
      refine (List.perm_ext_iff_of_nodup a ?_).mpr fun y => ?_
      · exact List.pairwise_map.mpr (nd.imp fun ne e => ne (sOf_inj e))
      · rw [b]
        simp only [List.not_mem_nil, false_or, List.mem_map]
        constructor
        · rintro ⟨x, hx, rfl⟩; exact ⟨x, (hm x).mpr hx, rfl⟩
        · rintro ⟨x, hx, rfl⟩; exact ⟨x, (hm x).mp hx, rfl⟩
    rw [sortS_perm p, ← srt_sOf, List.map_map]
    congr 1
  simp [vSortSet, e, strsOf_map, n, z]
theorem vSortDic_txt {l : List (Val × Val)} {i : Nat} {L : List Tx} {h : Hv} (e : h[i]? = some (.dic l)) (k : l.map (·.1) = L.map .str) (n : L.length < 64) : vSortDic (.ref i) h = .ok (.lst ((srt L).map .str)) h := by
  simp only [vSortDic, dicOf, e, k, strsOf_map, n, if_true, sortStr_srt]
theorem inSeq_txt (x : Tx) (L : List Tx) : inSeq (.str x) (L.map .str) = decide (x ∈ L) := by
  unfold inSeq
  induction L with
  | nil => rfl
  | cons a s ih =>
    simp only [List.map_cons, List.any_cons, ih, veq_str]
    by_cases h1 : a = x <;> by_cases h2 : x ∈ s <;> simp [h1, h2, eq_comm]
    intro e; exact absurd e.symm h1
theorem inOk_txt {x : Tx} {L : List Tx} (ox : okV (.str x) = true) (o : TxOk L) : inOk (.str x) (L.map .str) = true := by
  unfold inOk
  rw [ox, okVs_txt o, dpVs_txt]
  simp
section
variable {x : Tx} {L : List Tx} (ox : okV (.str x) = true) (o : TxOk L) (h : Hv)
include ox o
theorem vIn_tupTxt : vIn (.str x) (.tup (L.map .str)) h = .ok (.bl (decide (x ∈ L))) h := by
  simp only [vIn, isIn, seqOf, thaw, inOk_txt ox o, if_true, inSeq_txt, Res.bind_ok]
theorem vIn_lstTxt : vIn (.str x) (.lst (L.map .str)) h = .ok (.bl (decide (x ∈ L))) h := by
  simp only [vIn, isIn, seqOf, lstOf, thaw, inOk_txt ox o, if_true, inSeq_txt, Res.bind_ok]
theorem vNotIn_tupTxt : vNotIn (.str x) (.tup (L.map .str)) h = .ok (.bl (!decide (x ∈ L))) h := by
  simp only [vNotIn, isIn, seqOf, thaw, inOk_txt ox o, if_true, inSeq_txt, Res.bind_ok]
theorem vNotIn_lstTxt : vNotIn (.str x) (.lst (L.map .str)) h = .ok (.bl (!decide (x ∈ L))) h := by
  simp only [vNotIn, isIn, seqOf, lstOf, thaw, inOk_txt ox o, if_true, inSeq_txt, Res.bind_ok]
end
@[simp] theorem vNe_str (a b : Tx) (h : Hv) : vNe (.str a) (.str b) h = .ok (.bl (!decide (a = b))) h := nrfl rfl
@[simp] theorem vNe_int (a b : Int) (h : Hv) : vNe (.int a) (.int b) h = .ok (.bl (!decide (a = b))) h := nrfl rfl
theorem vEq_lnil (L : List Val) (o : okVs L = true) (h : Hv) : vEq (.lst L) (.lst []) h = .ok (.bl L.isEmpty) h ∧ vNe (.lst L) (.lst []) h = .ok (.bl (!L.isEmpty)) h := by
  cases L with
  | nil => exact ⟨rfl, rfl⟩
  | cons a l =>
    simp only [okVs] at o
    constructor
    · simp only [vEq, thaw, eqOk, okV, okVs, dpV, dpVs, o, Bool.and_true, Bool.true_and]
      rw [if_pos (by simp)]
      rfl
    · simp only [vNe, thaw, eqOk, okV, okVs, dpV, dpVs, o, Bool.and_true, Bool.true_and]
      rw [if_pos (by simp)]
      rfl
/-! words asked -/
section
variable {l : GH.Loc} {h : Hv} {i : Nat} {w : Tx} {c : Bool}
theorem inT (L : List Tx) (hl : l[i]? = some (some (.str w))) (ow : okV (.str w) = true) (o : TxOk L) (d : decide (w ∈ L) = c) : dB (dBin vIn (dVar i) (dC (.tup (L.map .str)))) l h = .ok c h := by
  simp only [e_b, e_bin, dVar, hl, Res.bind_ok, e_c, vIn_tupTxt ow o, resB_bl, d]
/-- d has the text w -/
theorem inTd {dd : Den} (L : List Tx) (hl : dd l h = .ok (.str w) h) (ow : okV (.str w) = true) (o : TxOk L) (d : decide (w ∈ L) = c) : dB (dBin vIn dd (dC (.tup (L.map .str)))) l h = .ok c h := by
  simp only [e_b, e_bin, hl, Res.bind_ok, e_c, vIn_tupTxt ow o, resB_bl, d]
def strsD : List Tx → DenG (List Val)
  | [] => dNil
  | a :: r => dCons (dC (.str a)) (strsD r)
theorem strsD_run (l : GH.Loc) (h : Hv) : ∀ ws : List Tx, strsD ws l h = .ok (ws.map .str) h
  | [] => rfl
  | a :: r => by simp [strsD, strsD_run l h r]
theorem inLd {dd : Den} (L : List Tx) (hl : dd l h = .ok (.str w) h) (n : L.length ≤ 100) (ow : okV (.str w) = true) (o : TxOk L) (d : decide (w ∈ L) = c) : dB (dBin vIn dd (dLst (strsD L))) l h = .ok c h := by
  simp only [e_b, e_bin, hl, Res.bind_ok, e_lst, strsD_run]
  rw [mkL_ok (by simp; omega)]
  simp only [Res.bind_ok, vIn_lstTxt ow o, resB_bl, d]
theorem eqT {dd : Den} {u : Tx} (hl : dd l h = .ok (.str w) h) (d : decide (w = u) = c) : dB (dBin vEq dd (dC (.str u))) l h = .ok c h := by
  simp only [e_b, e_bin, hl, Res.bind_ok, e_c, vEq_str, resB_bl, d]
end
theorem vMax_ints {L : List Int} {m : Int} (e : L.max? = some m) (h : Hv) : vMax (.lst (L.map .int)) h = .ok (.int m) h := by
  have z : ∀ L : List Int, intsOf (L.map .int) = some L := fun L => by
    induction L with
    | nil => rfl
    | cons a L ih => simp [intsOf, ih]
  simp [vMax, lstOf, z, e]
theorem if2_ {t : DenG Bool} {a b rest : Stm} {l : GH.Loc} {h : Hv} {P : Post} {c : Bool} (e : t l h = .ok c h) (z1 : c = true → sok (a l h) { P with nx := fun l h => sok (rest l h) P }) (z2 : c = false → sok (b l h) { P with nx := fun l h => sok (rest l h) P }) : sok (sSeq (sIf t a b) rest l h) P := by
  rw [e_seq, sok_then]
  simp only [e_if, e, Res.to_ok]
  cases c with
  | true => simpa using z1 rfl
  | false => simpa using z2 rfl
theorem expr_ {d : Den} {rest : Stm} {l : GH.Loc} {h h1 : Hv} {v : Val} {P : Post} (e : d l h = .ok v h1) (z : sok (rest l h1) P) : sok (sSeq (sExpr d) rest l h) P := by
  rw [e_seq, sok_then, e_expr, e]
  exact z
theorem lcL_filL {α : Type} (V : α → Val) (F : α → Bool) (G : α → Val) {t : Tg} {c : DenG Bool} {e : Den} {s : Src} {l : GH.Loc} {h : Hv} (hs : srcOk s h) : ∀ (L : List α) (acc : List Val), (∀ p ∈ L, ∃ l1, t (V p) l h = .ok l1 h ∧ c l1 h = .ok (F p) h ∧ (F p = true → e l1 h = .ok (G p) h)) → lcL t c e s (L.map V) acc l h = .ok (acc ++ (L.filter F).map G) h
  | [], acc, _ => by simp [lcL, hs]
  | x :: r, acc, q => by
    obtain ⟨l1, e1, e2, e3⟩ := q x (List.mem_cons_self ..)
    have ih := fun acc => lcL_filL V F G (t := t) (c := c) (e := e) (l := l) hs r acc fun y hy => q y (List.mem_cons_of_mem _ hy)
    simp only [List.map_cons, lcL, if_pos hs, e1, e2]
    cases ef : F x with
    | true => simp [e3 ef, ih, ef]
    | false => simp [ih, ef]
theorem lcL_mapL {α : Type} (V : α → Val) (G : α → Val) {t : Tg} {e : Den} {s : Src} {l : GH.Loc} {h : Hv} (hs : srcOk s h) (L : List α) (acc : List Val) (q : ∀ p ∈ L, ∃ l1, t (V p) l h = .ok l1 h ∧ e l1 h = .ok (G p) h) : lcL t dYes e s (L.map V) acc l h = .ok (acc ++ L.map G) h := by
  rw [lcL_filL V (fun _ => true) G hs L acc fun p hp => ?_]
  · rw [List.filter_eq_self.mpr fun _ _ => rfl]
  · obtain ⟨l1, e1, e2⟩ := q p hp
    exact ⟨l1, e1, rfl, fun _ => e2⟩
theorem dif_ {t : DenG Bool} {a b : Den} {l : GH.Loc} {h h1 : Hv} {P : Val → Hv → Prop} {c : Bool} (e : t l h = .ok c h1) (z1 : c = true → ok (a l h1) P) (z2 : c = false → ok (b l h1) P) : ok (dIf t a b l h) P := by
  rw [e_dif, e]
  cases c with
  | true => simpa using z1 rfl
  | false => simpa using z2 rfl
end GH
set_option Elab.async false
set_option linter.all false
set_option maxRecDepth 100000
set_option maxHeartbeats 2000000
set_option autoImplicit false
namespace L03
open PySem PySem.Spec PyProof.Rows L2 GH
def top (i : Nat) : Stmt := PySem.Challenge.pw_grovehouse_k03_variables_and_rules.main.body.getD i (.Pass ⟨0, 0, 0, 0⟩)

noncomputable def b_check_kind (Γ : Gam) : Stm := (sSeq (sAsg (dVar 0) (gTup 2 (gsCons (gName 1) (gsCons (gName 2) gsNil))))
    (sSeq (sIf (dOr (dB (dBin vNotIn (dVar 1) (dTup (dCons (dC (.int 1)) (dCons (dC (.int 2)) dNil))))) (dOr (dNot (dB (dChain vLe vLe (dC (.int 1)) (dLen (dVar 2)) (dC (.int 3))))) (dB (dBin vNe (dFn vList (dVar 2)) (dFn vSortSet (dVar 2)))))) (sSeq (sRaise [73, 110, 118, 97, 108, 105, 100, 75, 105, 110, 100])
    sNext) sNext)
    (sSeq (sIf (dNot (dTru (dFn vAll (dLc frozen [3] (iSeq (dVar 2)) (gName 3) dYes (dAndV (dBin vEq (dLen (dVar 3)) (dC (.int 1))) (dBin vIn (dVar 3) (dC (.str [97, 98, 99, 100, 101, 102, 103, 104, 105, 106, 107, 108, 109, 110, 111, 112, 113, 114, 115, 116, 117, 118, 119, 120, 121, 122])))))))) (sSeq (sRaise [73, 110, 118, 97, 108, 105, 100, 75, 105, 110, 100])
    sNext) sNext)
    sNext)))
noncomputable def d_check_kind (Γ : Gam) : DF := fun args h => runDef 4 (b_check_kind Γ) args h
noncomputable def b_atom_variables (Γ : Gam) : Stm := (sSeq (sAsg (dBin vIx (dVar 0) (dC (.int 0))) (gName 1))
    (sSeq (sIf (dB (dBin vEq (dVar 1) (dC (.str [116, 114, 117, 101])))) (sSeq (sRet (dLst dNil))
    sNext) sNext)
    (sSeq (sIf (dB (dBin vEq (dVar 1) (dC (.str [108, 97, 98, 101, 108])))) (sSeq (sRet (dLst (dCons (dBin vIx (dVar 0) (dC (.int 2))) dNil)))
    sNext) sNext)
    (sSeq (sIf (dB (dBin vEq (dVar 1) (dC (.str [99, 104, 105, 108, 100])))) (sSeq (sRet (dLst (dCons (dBin vIx (dVar 0) (dC (.int 2))) (dCons (dBin vIx (dVar 0) (dC (.int 3))) dNil))))
    sNext) sNext)
    (sSeq (sRet (dFn vList (dCut (dVar 0) (oSome (dC (.int 1))) oNone)))
    sNext)))))
noncomputable def d_atom_variables (Γ : Gam) : DF := fun args h => runDef 2 (b_atom_variables Γ) args h
noncomputable def b_inner (Γ : Gam) : Stm := (sSeq (sAsg (dBin vIx (dVar 0) (dC (.int 0))) (gName 1))
    (sSeq (sIf (dB (dBin vIn (dVar 1) (dC (.tup [.str [108, 97, 98, 101, 108], .str [99, 104, 105, 108, 100], .str [98, 101, 108, 111, 119], .str [115, 97, 109, 101], .str [116, 111, 112], .str [105, 110], .str [105, 110, 115, 105, 100, 101], .str [116, 114, 117, 101]])))) (sSeq (sRet (dLst dNil))
    sNext) sNext)
    (sSeq (sIf (dB (dBin vEq (dVar 1) (dC (.str [110, 111, 116])))) (sSeq (sRet (dLst (dCons (dBin vIx (dVar 0) (dC (.int 1))) dNil)))
    sNext) sNext)
    (sSeq (sIf (dB (dBin vIn (dVar 1) (dC (.tup [.str [115, 111, 109, 101], .str [97, 108, 108], .str [115, 111, 109, 101, 115, 101, 116], .str [97, 108, 108, 115, 101, 116]])))) (sSeq (sRet (dLst (dCons (dBin vIx (dVar 0) (dC (.int 2))) dNil)))
    sNext) sNext)
    (sSeq (sRet (dLst (dCons (dBin vIx (dVar 0) (dC (.int 1))) (dCons (dBin vIx (dVar 0) (dC (.int 2))) dNil))))
    sNext)))))
noncomputable def d_inner (Γ : Gam) : DF := fun args h => runDef 2 (b_inner Γ) args h
noncomputable def b_free_variables (Γ : Gam) : Stm := (sSeq (sIf (dB (dBin vIn (dBin vIx (dVar 0) (dC (.int 0))) (dC (.tup [.str [108, 97, 98, 101, 108], .str [99, 104, 105, 108, 100], .str [98, 101, 108, 111, 119], .str [115, 97, 109, 101], .str [116, 111, 112], .str [105, 110], .str [105, 110, 115, 105, 100, 101], .str [116, 114, 117, 101]])))) (sSeq (sRet (dFn vSortSet (dCall (Γ 1) (dCons (dVar 0) dNil))))
    sNext) sNext)
    (sSeq (sAsg dNewD (gName 1))
    (sSeq (sFor (iSeq (dCall (Γ 2) (dCons (dVar 0) dNil))) (gName 2) (sSeq (sFor (iSeq (dCall (Γ 3) (dCons (dVar 2) dNil))) (gName 3) (sSeq (sAsg (dC (.bl true)) (gSub (dVar 1) (dVar 3)))
    sNext))
    sNext))
    (sSeq (sIf (dB (dBin vIn (dBin vIx (dVar 0) (dC (.int 0))) (dC (.tup [.str [115, 111, 109, 101], .str [97, 108, 108], .str [115, 111, 109, 101, 115, 101, 116], .str [97, 108, 108, 115, 101, 116]])))) (sSeq (sExpr (dPop2 (dVar 1) (dBin vIx (dVar 0) (dC (.int 1))) (dC .non)))
    sNext) sNext)
    (sSeq (sRet (dFn vSortDic (dVar 1)))
    sNext)))))
noncomputable def d_free_variables (Γ : Gam) : DF := fun args h => tidy (runDef 4 (b_free_variables Γ) args h) h
noncomputable def b_depth (Γ : Gam) : Stm := (sSeq (sRet (dBin vAdd (dC (.int 1)) (dFn vMax (dBin vAdd (dLst (dCons (dC (.int 0)) dNil)) (dLc frozen [1] (iSeq (dCall (Γ 2) (dCons (dVar 0) dNil))) (gName 1) dYes (dCall (Γ 4) (dCons (dVar 1) dNil)))))))
    sNext)
noncomputable def d_depth (Γ : Gam) : DF := fun args h => runDef 2 (b_depth Γ) args h
noncomputable def b_check_parts (Γ : Gam) : Stm := (sSeq (sAsg (dVar 0) (gTup 2 (gsCons (gName 3) (gsCons (gName 4) gsNil))))
    (sSeq (sIf (dAnd (dB (dBin vEq (dBin vIx (dVar 1) (dC (.int 0))) (dC (.str [108, 97, 98, 101, 108])))) (dB (dBin vNotIn (dBin vIx (dVar 1) (dC (.int 1))) (dVar 4)))) (sSeq (sRaise [73, 110, 118, 97, 108, 105, 100, 83, 101, 110, 116, 101, 110, 99, 101])
    sNext) sNext)
    (sSeq (sIf (dAnd (dB (dBin vEq (dBin vIx (dVar 1) (dC (.int 0))) (dC (.str [99, 104, 105, 108, 100])))) (dB (dBin vGe (dBin vIx (dVar 1) (dC (.int 1))) (dVar 3)))) (sSeq (sRaise [73, 110, 118, 97, 108, 105, 100, 83, 101, 110, 116, 101, 110, 99, 101])
    sNext) sNext)
    (sSeq (sIf (dB (dBin vGt (dLen (dCall (Γ 3) (dCons (dVar 1) dNil))) (dC (.int 6)))) (sSeq (sRaise [73, 110, 118, 97, 108, 105, 100, 83, 101, 110, 116, 101, 110, 99, 101])
    sNext) sNext)
    (sSeq (sFor (iSeq (dCall (Γ 2) (dCons (dVar 1) dNil))) (gName 2) (sSeq (sExpr (dCall (Γ 5) (dCons (dVar 0) (dCons (dVar 2) dNil))))
    sNext))
    sNext)))))
noncomputable def d_check_parts (Γ : Gam) : DF := fun args h => runDef 5 (b_check_parts Γ) args h
noncomputable def b_check_formula (Γ : Gam) : Stm := (sSeq (sExpr (dCall (Γ 0) (dCons (dVar 0) dNil)))
    (sSeq (sIf (dB (dBin vGt (dCall (Γ 4) (dCons (dVar 1) dNil)) (dC (.int 40)))) (sSeq (sRaise [73, 110, 118, 97, 108, 105, 100, 83, 101, 110, 116, 101, 110, 99, 101])
    sNext) sNext)
    (sSeq (sExpr (dCall (Γ 5) (dCons (dVar 0) (dCons (dVar 1) dNil))))
    sNext)))
noncomputable def d_check_formula (Γ : Gam) : DF := fun args h => runDef 2 (b_check_formula Γ) args h
noncomputable def b_check_sentence (Γ : Gam) : Stm := (sSeq (sExpr (dCall (Γ 6) (dCons (dVar 0) (dCons (dVar 1) dNil))))
    (sSeq (sIf (dTru (dCall (Γ 3) (dCons (dVar 1) dNil))) (sSeq (sRaise [73, 110, 118, 97, 108, 105, 100, 83, 101, 110, 116, 101, 110, 99, 101])
    sNext) sNext)
    sNext))
noncomputable def d_check_sentence (Γ : Gam) : DF := fun args h => runDef 2 (b_check_sentence Γ) args h
noncomputable def b__law_tape (Γ : Gam) : Stm := (sSeq (sAsg (dLc frozen [3] (iSeq (dVar 0)) (gName 3) dYes (dFn vAbs (dFn vInt (dVar 3)))) (gName 1))
    (sSeq (sAsg (dC (.int 7)) (gName 2))
    (sSeq (sFor (iSeq (dVar 1)) (gName 3) (sSeq (sAsg (dBin vMod (dFn vInt (dBin vAdd (dBin vMul (dVar 2) (dC (.int 31))) (dVar 3))) (dC (.int 2147483647))) (gName 2))
    sNext))
    (sSeq (sRet (dDisp (((dC (.str [99, 101, 108, 108, 115])), (dVar 1)) :: (((dC (.str [97, 116])), (dC (.int 0))) :: (((dC (.str [108, 101, 102, 116])), (dC (.int 0))) :: (((dC (.str [115, 101, 101, 100])), (dVar 2)) :: (((dC (.str [115, 97, 108, 116])), (dC (.int 0))) :: [])))))))
    sNext))))
noncomputable def d__law_tape (Γ : Gam) : DF := fun args h => runDef 4 (b__law_tape Γ) args h
noncomputable def b__law_take (Γ : Gam) : Stm := (sSeq (sIf (dAnd (dB (dBin vEq (dBin vIx (dVar 0) (dC (.str [108, 101, 102, 116]))) (dC (.int 0)))) (dB (dBin vLt (dBin vIx (dVar 0) (dC (.str [97, 116]))) (dLen (dBin vIx (dVar 0) (dC (.str [99, 101, 108, 108, 115]))))))) (sSeq (sAsg (dBin vIx (dBin vIx (dVar 0) (dC (.str [99, 101, 108, 108, 115]))) (dBin vIx (dVar 0) (dC (.str [97, 116])))) (gSub (dVar 0) (dC (.str [108, 101, 102, 116]))))
    (sSeq (sAsg (dBin vAdd (dBin vIx (dVar 0) (dC (.str [97, 116]))) (dC (.int 1))) (gSub (dVar 0) (dC (.str [97, 116]))))
    sNext)) sNext)
    (sSeq (sIf (dB (dBin vGt (dBin vIx (dVar 0) (dC (.str [108, 101, 102, 116]))) (dC (.int 0)))) (sSeq (sAsg (dBin vMod (dFn vInt (dBin vIx (dVar 0) (dC (.str [108, 101, 102, 116])))) (dVar 1)) (gName 3))
    (sSeq (sAsg (dBin vDiv (dBin vIx (dVar 0) (dC (.str [108, 101, 102, 116]))) (dVar 1)) (gSub (dVar 0) (dC (.str [108, 101, 102, 116]))))
    (sSeq (sRet (dVar 3))
    sNext))) sNext)
    (sSeq (sAsg (dBin vAdd (dBin vIx (dVar 0) (dC (.str [115, 97, 108, 116]))) (dC (.int 1))) (gSub (dVar 0) (dC (.str [115, 97, 108, 116]))))
    (sSeq (sAsg (dBin vMod (dFn vInt (dBin vAdd (dBin vMul (dBin vIx (dVar 0) (dC (.str [115, 101, 101, 100]))) (dC (.int 48271))) (dBin vMul (dBin vIx (dVar 0) (dC (.str [115, 97, 108, 116]))) (dC (.int 69621))))) (dC (.int 2147483647))) (gName 2))
    (sSeq (sAsg (dBin vMod (dFn vInt (dBin vAdd (dBin vAdd (dBin vMul (dVar 2) (dVar 2)) (dBin vMul (dBin vIx (dVar 0) (dC (.str [115, 97, 108, 116]))) (dC (.int 40692)))) (dC (.int 12345)))) (dC (.int 2147483399))) (gName 2))
    (sSeq (sRet (dBin vMod (dFn vInt (dVar 2)) (dVar 1)))
    sNext))))))
noncomputable def d__law_take (Γ : Gam) : DF := fun args h => runDef 4 (b__law_take Γ) args h
noncomputable def b__law_is_integer (Γ : Gam) : Stm := (sSeq (sRet (dAndV (dIsi .int (dVar 0)) (dNotV (dIsi .bool (dVar 0)))))
    sNext)
noncomputable def d__law_is_integer (Γ : Gam) : DF := fun args h => runDef 1 (b__law_is_integer Γ) args h
noncomputable def b__law_same_items (Γ : Gam) : Stm := (sSeq (sIf (dB (dBin vNe (dLen (dVar 0)) (dLen (dVar 1)))) (sSeq (sRet (dC (.bl false)))
    sNext) sNext)
    (sSeq (sFor (iRange1 (dLen (dVar 1))) (gName 2) (sSeq (sIf (dNot (dTru (dCall (Γ 12) (dCons (dBin vIx (dVar 0) (dVar 2)) (dCons (dBin vIx (dVar 1) (dVar 2)) dNil))))) (sSeq (sRet (dC (.bl false)))
    sNext) sNext)
    sNext))
    (sSeq (sRet (dC (.bl true)))
    sNext)))
noncomputable def d__law_same_items (Γ : Gam) : DF := fun args h => runDef 3 (b__law_same_items Γ) args h
noncomputable def b__law_same (Γ : Gam) : Stm := (sSeq (sIf (dB (dBin vIsN (dVar 1) (dC .non))) (sSeq (sRet (dBin vIsN (dVar 0) (dC .non)))
    sNext) sNext)
    (sSeq (sIf (dTru (dIsi .bool (dVar 1))) (sSeq (sRet (dAndV (dIsi .bool (dVar 0)) (dBin vEq (dVar 0) (dVar 1))))
    sNext) sNext)
    (sSeq (sIf (dTru (dIsi .int (dVar 1))) (sSeq (sRet (dAndV (dCall (Γ 10) (dCons (dVar 0) dNil)) (dBin vEq (dVar 0) (dVar 1))))
    sNext) sNext)
    (sSeq (sIf (dTru (dIsi .str (dVar 1))) (sSeq (sRet (dAndV (dIsi .str (dVar 0)) (dBin vEq (dVar 0) (dVar 1))))
    sNext) sNext)
    (sSeq (sIf (dTru (dIsi .tuple (dVar 1))) (sSeq (sRet (dAndV (dIsi .tuple (dVar 0)) (dCall (Γ 11) (dCons (dVar 0) (dCons (dVar 1) dNil)))))
    sNext) sNext)
    (sSeq (sIf (dTru (dIsi .list (dVar 1))) (sSeq (sRet (dAndV (dIsi .list (dVar 0)) (dCall (Γ 11) (dCons (dVar 0) (dCons (dVar 1) dNil)))))
    sNext) sNext)
    (sSeq (sIf (dOr (dNot (dTru (dIsi .dict (dVar 0)))) (dB (dBin vNe (dLen (dVar 0)) (dLen (dVar 1))))) (sSeq (sRet (dC (.bl false)))
    sNext) sNext)
    (sSeq (sFor (iSeq (dVar 1)) (gName 2) (sSeq (sIf (dOr (dB (dBin vNotIn (dVar 2) (dVar 0))) (dNot (dTru (dCall (Γ 12) (dCons (dBin vIx (dVar 0) (dVar 2)) (dCons (dBin vIx (dVar 1) (dVar 2)) dNil)))))) (sSeq (sRet (dC (.bl false)))
    sNext) sNext)
    sNext))
    (sSeq (sFor (iSeq (dVar 0)) (gName 2) (sSeq (sIf (dTru (dIsi .bool (dVar 2))) (sSeq (sRet (dC (.bl false)))
    sNext) sNext)
    sNext))
    (sSeq (sRet (dC (.bl true)))
    sNext))))))))))
noncomputable def d__law_same (Γ : Gam) : DF := fun args h => runDef 3 (b__law_same Γ) args h
noncomputable def b__law_kind (Γ : Gam) : Stm := (sSeq (sAsg (dBin vIx (dTup (dCons (dTup (dCons (dC (.str [97])) dNil)) (dCons (dTup (dCons (dC (.str [97])) (dCons (dC (.str [98])) dNil))) (dCons (dTup (dCons (dC (.str [97])) (dCons (dC (.str [98])) dNil))) (dCons (dTup (dCons (dC (.str [98])) (dCons (dC (.str [100])) (dCons (dC (.str [122])) dNil)))) dNil))))) (dCall (Γ 9) (dCons (dVar 0) (dCons (dC (.int 4)) dNil)))) (gName 1))
    (sSeq (sRet (dTup (dCons (dBin vAdd (dC (.int 1)) (dBin vDiv (dCall (Γ 9) (dCons (dVar 0) (dCons (dC (.int 5)) dNil))) (dC (.int 3)))) (dCons (dVar 1) dNil))))
    sNext))
noncomputable def d__law_kind (Γ : Gam) : DF := fun args h => runDef 2 (b__law_kind Γ) args h
noncomputable def b__law_atom (Γ : Gam) : Stm := (sSeq (sAsg (dCall (Γ 9) (dCons (dVar 0) (dCons (dC (.int 12)) dNil))) (gName 4))
    (sSeq (sIf (dAnd (dB (dBin vNe (dVar 3) (dLst dNil))) (dOr (dB (dBin vLt (dVar 4) (dC (.int 4)))) (dB (dBin vEq (dVar 2) (dLst dNil))))) (sSeq (sIf (dOr (dB (dBin vEq (dVar 2) (dLst dNil))) (dB (dBin vEq (dVar 4) (dC (.int 0))))) (sSeq (sRet (dTup (dCons (dC (.str [105, 110, 115, 105, 100, 101])) (dCons (dBin vIx (dVar 3) (dCall (Γ 9) (dCons (dVar 0) (dCons (dLen (dVar 3)) dNil)))) (dCons (dBin vIx (dVar 3) (dCall (Γ 9) (dCons (dVar 0) (dCons (dLen (dVar 3)) dNil)))) dNil)))))
    sNext) sNext)
    (sSeq (sRet (dTup (dCons (dC (.str [105, 110])) (dCons (dBin vIx (dVar 2) (dCall (Γ 9) (dCons (dVar 0) (dCons (dLen (dVar 2)) dNil)))) (dCons (dBin vIx (dVar 3) (dCall (Γ 9) (dCons (dVar 0) (dCons (dLen (dVar 3)) dNil)))) dNil)))))
    sNext)) sNext)
    (sSeq (sIf (dB (dBin vEq (dVar 2) (dLst dNil))) (sSeq (sRet (dTup (dCons (dC (.str [116, 114, 117, 101])) dNil)))
    sNext) sNext)
    (sSeq (sAsg (dBin vIx (dVar 2) (dCall (Γ 9) (dCons (dVar 0) (dCons (dLen (dVar 2)) dNil)))) (gName 5))
    (sSeq (sAsg (dBin vIx (dVar 2) (dCall (Γ 9) (dCons (dVar 0) (dCons (dLen (dVar 2)) dNil)))) (gName 6))
    (sSeq (sIf (dB (dBin vLt (dVar 4) (dC (.int 7)))) (sSeq (sRet (dTup (dCons (dC (.str [108, 97, 98, 101, 108])) (dCons (dBin vIx (dBin vIx (dVar 1) (dC (.int 1))) (dCall (Γ 9) (dCons (dVar 0) (dCons (dLen (dBin vIx (dVar 1) (dC (.int 1)))) dNil)))) (dCons (dVar 5) dNil)))))
    sNext) sNext)
    (sSeq (sIf (dB (dBin vEq (dVar 4) (dC (.int 7)))) (sSeq (sRet (dTup (dCons (dC (.str [116, 111, 112])) (dCons (dVar 5) dNil))))
    sNext) sNext)
    (sSeq (sIf (dB (dBin vEq (dVar 4) (dC (.int 8)))) (sSeq (sRet (dTup (dCons (dC (.str [115, 97, 109, 101])) (dCons (dVar 5) (dCons (dVar 6) dNil)))))
    sNext) sNext)
    (sSeq (sRet (dIf (dB (dBin vLt (dVar 4) (dC (.int 11)))) (dTup (dCons (dC (.str [99, 104, 105, 108, 100])) (dCons (dCall (Γ 9) (dCons (dVar 0) (dCons (dBin vIx (dVar 1) (dC (.int 0))) dNil))) (dCons (dVar 5) (dCons (dVar 6) dNil))))) (dTup (dCons (dC (.str [98, 101, 108, 111, 119])) (dCons (dVar 5) (dCons (dVar 6) dNil))))))
    sNext)))))))))
noncomputable def d__law_atom (Γ : Gam) : DF := fun args h => runDef 7 (b__law_atom Γ) args h
noncomputable def b__law_matrix (Γ : Gam) : Stm := (sSeq (sAsg (dIf (dB (dBin vGt (dVar 4) (dC (.int 0)))) (dCall (Γ 9) (dCons (dVar 0) (dCons (dC (.int 8)) dNil))) (dC (.int 0))) (gName 5))
    (sSeq (sIf (dB (dBin vLt (dVar 5) (dC (.int 3)))) (sSeq (sRet (dCall (Γ 14) (dCons (dVar 0) (dCons (dVar 1) (dCons (dVar 2) (dCons (dVar 3) dNil))))))
    sNext) sNext)
    (sSeq (sIf (dB (dBin vEq (dVar 5) (dC (.int 3)))) (sSeq (sRet (dTup (dCons (dC (.str [110, 111, 116])) (dCons (dCall (Γ 15) (dCons (dVar 0) (dCons (dVar 1) (dCons (dVar 2) (dCons (dVar 3) (dCons (dBin vSub (dVar 4) (dC (.int 1))) dNil)))))) dNil))))
    sNext) sNext)
    (sSeq (sIf (dB (dBin vLt (dVar 5) (dC (.int 7)))) (sSeq (sAsg (dBin vIx (dLst (dCons (dC (.str [97, 110, 100])) (dCons (dC (.str [111, 114])) dNil))) (dCall (Γ 9) (dCons (dVar 0) (dCons (dC (.int 2)) dNil)))) (gName 6))
    (sSeq (sAsg (dCall (Γ 15) (dCons (dVar 0) (dCons (dVar 1) (dCons (dVar 2) (dCons (dVar 3) (dCons (dBin vSub (dVar 4) (dC (.int 1))) dNil)))))) (gName 8))
    (sSeq (sRet (dTup (dCons (dVar 6) (dCons (dVar 8) (dCons (dCall (Γ 15) (dCons (dVar 0) (dCons (dVar 1) (dCons (dVar 2) (dCons (dVar 3) (dCons (dBin vSub (dVar 4) (dC (.int 1))) dNil)))))) dNil)))))
    sNext))) sNext)
    (sSeq (sAsg (dBin vIx (dLst (dCons (dC (.str [115, 111, 109, 101])) (dCons (dC (.str [97, 108, 108])) dNil))) (dCall (Γ 9) (dCons (dVar 0) (dCons (dC (.int 2)) dNil)))) (gName 6))
    (sSeq (sAsg (dBin vIx (dLst (dCons (dC (.str [120])) (dCons (dC (.str [121])) (dCons (dC (.str [122])) dNil)))) (dCall (Γ 9) (dCons (dVar 0) (dCons (dC (.int 3)) dNil)))) (gName 7))
    (sSeq (sRet (dTup (dCons (dVar 6) (dCons (dVar 7) (dCons (dCall (Γ 15) (dCons (dVar 0) (dCons (dVar 1) (dCons (dBin vAdd (dVar 2) (dLst (dCons (dVar 7) dNil))) (dCons (dVar 3) (dCons (dBin vSub (dVar 4) (dC (.int 1))) dNil)))))) dNil)))))
    sNext)))))))
noncomputable def d__law_matrix (Γ : Gam) : DF := fun args h => runDef 9 (b__law_matrix Γ) args h
noncomputable def b__law_inner (Γ : Gam) : Stm := (sSeq (sAsg (dBin vIx (dVar 0) (dC (.int 0))) (gName 1))
    (sSeq (sIf (dB (dBin vEq (dVar 1) (dC (.str [110, 111, 116])))) (sSeq (sRet (dLst (dCons (dBin vIx (dVar 0) (dC (.int 1))) dNil)))
    sNext) sNext)
    (sSeq (sIf (dB (dBin vIn (dVar 1) (dLst (dCons (dC (.str [97, 110, 100])) (dCons (dC (.str [111, 114])) dNil))))) (sSeq (sRet (dLst (dCons (dBin vIx (dVar 0) (dC (.int 1))) (dCons (dBin vIx (dVar 0) (dC (.int 2))) dNil))))
    sNext) sNext)
    (sSeq (sRet (dIf (dB (dBin vIn (dVar 1) (dLst (dCons (dC (.str [115, 111, 109, 101])) (dCons (dC (.str [97, 108, 108])) (dCons (dC (.str [115, 111, 109, 101, 115, 101, 116])) (dCons (dC (.str [97, 108, 108, 115, 101, 116])) dNil))))))) (dLst (dCons (dBin vIx (dVar 0) (dC (.int 2))) dNil)) (dLst dNil)))
    sNext))))
noncomputable def d__law_inner (Γ : Gam) : DF := fun args h => runDef 2 (b__law_inner Γ) args h
noncomputable def b__law_free (Γ : Gam) : Stm := (sSeq (sAsg (dCall (Γ 16) (dCons (dVar 0) dNil)) (gName 1))
    (sSeq (sAsg (dLst dNil) (gName 2))
    (sSeq (sFor (iSeq (dVar 1)) (gName 3) (sSeq (sAsg (dBin vAdd (dVar 2) (dLc frozen [6] (iSeq (dCall (Γ 17) (dCons (dVar 3) dNil))) (gName 6) (dB (dBin vNotIn (dVar 6) (dVar 2))) (dVar 6))) (gName 2))
    sNext))
    (sSeq (sIf (dB (dBin vEq (dVar 1) (dLst dNil))) (sSeq (sAsg (dIf (dB (dBin vIn (dBin vIx (dVar 0) (dC (.int 0))) (dLst (dCons (dC (.str [108, 97, 98, 101, 108])) (dCons (dC (.str [99, 104, 105, 108, 100])) dNil))))) (dCut (dVar 0) (oSome (dC (.int 2))) oNone) (dCut (dVar 0) (oSome (dC (.int 1))) oNone)) (gName 4))
    (sSeq (sAsg (dLc frozen [5] (iRange1 (dLen (dVar 4))) (gName 5) (dB (dBin vNotIn (dBin vIx (dVar 4) (dVar 5)) (dCut (dVar 4) oNone (oSome (dVar 5))))) (dBin vIx (dVar 4) (dVar 5))) (gName 2))
    sNext)) sNext)
    (sSeq (sIf (dB (dBin vIn (dBin vIx (dVar 0) (dC (.int 0))) (dLst (dCons (dC (.str [115, 111, 109, 101])) (dCons (dC (.str [97, 108, 108])) (dCons (dC (.str [115, 111, 109, 101, 115, 101, 116])) (dCons (dC (.str [97, 108, 108, 115, 101, 116])) dNil))))))) (sSeq (sAsg (dLc frozen [6] (iSeq (dVar 2)) (gName 6) (dB (dBin vNe (dVar 6) (dBin vIx (dVar 0) (dC (.int 1))))) (dVar 6)) (gName 2))
    sNext) sNext)
    (sSeq (sRet (dVar 2))
    sNext))))))
noncomputable def d__law_free (Γ : Gam) : DF := fun args h => runDef 7 (b__law_free Γ) args h
noncomputable def b__law_depth (Γ : Gam) : Stm := (sSeq (sRet (dBin vAdd (dC (.int 1)) (dFn vMax (dBin vAdd (dLst (dCons (dC (.int 0)) dNil)) (dLc frozen [1] (iSeq (dCall (Γ 16) (dCons (dVar 0) dNil))) (gName 1) dYes (dCall (Γ 18) (dCons (dVar 1) dNil)))))))
    sNext)
noncomputable def d__law_depth (Γ : Gam) : DF := fun args h => runDef 2 (b__law_depth Γ) args h
noncomputable def b__law_fits (Γ : Gam) : Stm := (sSeq (sIf (dOr (dAnd (dB (dBin vEq (dBin vIx (dVar 1) (dC (.int 0))) (dC (.str [108, 97, 98, 101, 108])))) (dB (dBin vNotIn (dBin vIx (dVar 1) (dC (.int 1))) (dBin vIx (dVar 0) (dC (.int 1)))))) (dAnd (dB (dBin vEq (dBin vIx (dVar 1) (dC (.int 0))) (dC (.str [99, 104, 105, 108, 100])))) (dB (dBin vGe (dBin vIx (dVar 1) (dC (.int 1))) (dBin vIx (dVar 0) (dC (.int 0))))))) (sSeq (sRet (dC (.bl false)))
    sNext) sNext)
    (sSeq (sRet (dAndV (dBin vLe (dLen (dCall (Γ 17) (dCons (dVar 1) dNil))) (dC (.int 6))) (dFn vAll (dLc frozen [2] (iSeq (dCall (Γ 16) (dCons (dVar 1) dNil))) (gName 2) dYes (dCall (Γ 19) (dCons (dVar 0) (dCons (dVar 2) dNil)))))))
    sNext))
noncomputable def d__law_fits (Γ : Gam) : DF := fun args h => runDef 3 (b__law_fits Γ) args h
noncomputable def b__law_told (Γ : Gam) : Stm := (sSeq (sTryIs 4 [73, 110, 118, 97, 108, 105, 100, 83, 101, 110, 116, 101, 110, 99, 101] true (sSeq (sAsg (dIf (dTru (dVar 2)) (dCall (Γ 7) (dCons (dVar 0) (dCons (dVar 1) dNil))) (dCall (Γ 6) (dCons (dVar 0) (dCons (dVar 1) dNil)))) (gName 3))
    sNext) [110, 111] [119, 114, 111, 110, 103])
    (sSeq (sRet (dIf (dB (dBin vIsN (dVar 3) (dC .non))) (dC (.str [121, 101, 115])) (dC (.str [119, 114, 111, 110, 103]))))
    sNext))
noncomputable def d__law_told (Γ : Gam) : DF := fun args h => runDef 5 (b__law_told Γ) args h
noncomputable def b_law (Γ : Gam) : Stm := (sSeq (sAsg (dCall (Γ 8) (dCons (dVar 0) dNil)) (gName 1))
    (sSeq (sAsg (dCall (Γ 13) (dCons (dVar 1) dNil)) (gName 2))
    (sSeq (sAsg (dCall (Γ 15) (dCons (dVar 1) (dCons (dVar 2) (dCons (dCut (dLst (dCons (dC (.str [120])) (dCons (dC (.str [121])) (dCons (dC (.str [117])) dNil)))) oNone (oSome (dBin vAdd (dC (.int 1)) (dCall (Γ 9) (dCons (dVar 1) (dCons (dC (.int 3)) dNil)))))) (dCons (dCut (dLst (dCons (dC (.str [88])) (dCons (dC (.str [89, 50])) dNil))) oNone (oSome (dCall (Γ 9) (dCons (dVar 1) (dCons (dC (.int 3)) dNil))))) (dCons (dC (.int 3)) dNil)))))) (gName 3))
    (sSeq (sAsg (dCall (Γ 9) (dCons (dVar 1) (dCons (dC (.int 9)) dNil))) (gName 4))
    (sSeq (sIf (dB (dBin vEq (dVar 4) (dC (.int 0)))) (sSeq (sAsg (dLstM (dCons (dTup (dCons (dC (.str [108, 97, 98, 101, 108])) (dCons (dC (.str [113])) (dCons (dC (.str [120])) dNil)))) (dCons (dVar 3) dNil))) (gName 7))
    (sSeq (sIf (dB (dBin vEq (dCall (Γ 9) (dCons (dVar 1) (dCons (dC (.int 2)) dNil))) (dC (.int 0)))) (sSeq (sExpr (dMeth0 isLst vReverse (dVar 7)))
    sNext) sNext)
    (sSeq (sAsg (dTup (dCons (dBin vIx (dLst (dCons (dC (.str [97, 110, 100])) (dCons (dC (.str [111, 114])) dNil))) (dCall (Γ 9) (dCons (dVar 1) (dCons (dC (.int 2)) dNil)))) (dCons (dBin vIx (dVar 7) (dC (.int 0))) (dCons (dBin vIx (dVar 7) (dC (.int 1))) dNil)))) (gName 3))
    sNext))) sNext)
    (sSeq (sIf (dB (dBin vEq (dVar 4) (dC (.int 1)))) (sSeq (sAsg (dTup (dCons (dC (.str [115, 111, 109, 101])) (dCons (dC (.str [121])) (dCons (dTup (dCons (dC (.str [99, 104, 105, 108, 100])) (dCons (dC (.int 1)) (dCons (dC (.str [121])) (dCons (dC (.str [120])) dNil))))) dNil)))) (gName 3))
    (sSeq (sIf (dB (dBin vEq (dCall (Γ 9) (dCons (dVar 1) (dCons (dC (.int 2)) dNil))) (dC (.int 0)))) (sSeq (sAsg (dTup (dCons (dC (.str [111, 114])) (dCons (dTup (dCons (dC (.str [110, 111, 116])) (dCons (dTup (dCons (dC (.str [116, 111, 112])) (dCons (dC (.str [120])) dNil))) dNil))) (dCons (dTup (dCons (dC (.str [97, 110, 100])) (dCons (dTup (dCons (dC (.str [116, 114, 117, 101])) dNil)) (dCons (dVar 3) dNil)))) dNil)))) (gName 3))
    sNext) sNext)
    sNext)) sNext)
    (sSeq (sIf (dB (dBin vEq (dVar 4) (dC (.int 2)))) (sSeq (sFor (iRange1 (dBin vAdd (dC (.int 6)) (dCall (Γ 9) (dCons (dVar 1) (dCons (dC (.int 2)) dNil))))) (gName 8) (sSeq (sAsg (dTup (dCons (dC (.str [97, 110, 100])) (dCons (dVar 3) (dCons (dTup (dCons (dC (.str [116, 111, 112])) (dCons (dBin vAdd (dC (.str [118])) (dFn vStrI (dVar 8))) dNil))) dNil)))) (gName 3))
    sNext))
    (sSeq (sAsg (dTup (dCons (dC (.str [115, 111, 109, 101])) (dCons (dC (.str [118, 48])) (dCons (dVar 3) dNil)))) (gName 3))
    sNext)) sNext)
    (sSeq (sIf (dB (dBin vEq (dVar 4) (dC (.int 3)))) (sSeq (sFor (iRange1 (dBin vAdd (dC (.int 34)) (dCall (Γ 9) (dCons (dVar 1) (dCons (dC (.int 8)) dNil))))) (gName 8) (sSeq (sAsg (dTup (dCons (dC (.str [110, 111, 116])) (dCons (dVar 3) dNil))) (gName 3))
    sNext))
    sNext) sNext)
    (sSeq (sIf (dNot (dTru (dCall (Γ 12) (dCons (dLst (dCons (dCall (Γ 3) (dCons (dVar 3) dNil)) (dCons (dCall (Γ 4) (dCons (dVar 3) dNil)) dNil))) (dCons (dLst (dCons (dFn vSorted (dCall (Γ 17) (dCons (dVar 3) dNil))) (dCons (dCall (Γ 18) (dCons (dVar 3) dNil)) dNil))) dNil))))) (sSeq (sRet (dC (.bl false)))
    sNext) sNext)
    (sSeq (sAsg (dAndV (dCall (Γ 19) (dCons (dVar 2) (dCons (dVar 3) dNil))) (dBin vLe (dCall (Γ 18) (dCons (dVar 3) dNil)) (dC (.int 40)))) (gName 5))
    (sSeq (sAsg (dAndV (dVar 5) (dBin vEq (dCall (Γ 17) (dCons (dVar 3) dNil)) (dLst dNil))) (gName 6))
    (sSeq (sIf (dB (dBin vNe (dCall (Γ 20) (dCons (dVar 2) (dCons (dVar 3) (dCons (dC (.bl false)) dNil)))) (dIf (dTru (dVar 5)) (dC (.str [121, 101, 115])) (dC (.str [110, 111]))))) (sSeq (sRet (dC (.bl false)))
    sNext) sNext)
    (sSeq (sRet (dBin vEq (dCall (Γ 20) (dCons (dVar 2) (dCons (dVar 3) (dCons (dC (.bl true)) dNil)))) (dIf (dTru (dVar 6)) (dC (.str [121, 101, 115])) (dC (.str [110, 111])))))
    sNext)))))))))))))
noncomputable def d_law (Γ : Gam) : DF := fun args h => runDef 9 (b_law Γ) args h
noncomputable def D (Γ : Gam) : Gam := fun j => match j with
  | 0 => d_check_kind Γ
  | 1 => d_atom_variables Γ
  | 2 => d_inner Γ
  | 3 => d_free_variables Γ
  | 4 => d_depth Γ
  | 5 => d_check_parts Γ
  | 6 => d_check_formula Γ
  | 7 => d_check_sentence Γ
  | 8 => d__law_tape Γ
  | 9 => d__law_take Γ
  | 10 => d__law_is_integer Γ
  | 11 => d__law_same_items Γ
  | 12 => d__law_same Γ
  | 13 => d__law_kind Γ
  | 14 => d__law_atom Γ
  | 15 => d__law_matrix Γ
  | 16 => d__law_inner Γ
  | 17 => d__law_free Γ
  | 18 => d__law_depth Γ
  | 19 => d__law_fits Γ
  | 20 => d__law_told Γ
  | 21 => d_law Γ
  | _ => fun _ _ => .fail
def sig : List (Str × List Str) := [("check_kind", ["kind"]), ("atom_variables", ["formula"]), ("inner", ["formula"]), ("free_variables", ["formula"]), ("depth", ["formula"]), ("check_parts", ["kind", "formula"]), ("check_formula", ["kind", "formula"]), ("check_sentence", ["kind", "formula"]), ("_law_tape", ["script"]), ("_law_take", ["tape", "many"]), ("_law_is_integer", ["actual"]), ("_law_same_items", ["actual", "expected"]), ("_law_same", ["actual", "expected"]), ("_law_kind", ["tape"]), ("_law_atom", ["tape", "kind", "singles", "sets"]), ("_law_matrix", ["tape", "kind", "singles", "sets", "deep"]), ("_law_inner", ["formula"]), ("_law_free", ["formula"]), ("_law_depth", ["formula"]), ("_law_fits", ["kind", "formula"]), ("_law_told", ["kind", "formula", "closed"]), ("law", ["script"])]
structure Fc (K : PySem.W.Frag) (mg : Str → Option Value) : Prop where
  f_abs : mg "abs" = none
  f_all : mg "all" = none
  f_bool : mg "bool" = none
  f_dict : mg "dict" = none
  f_int : mg "int" = none
  f_isinstance : mg "isinstance" = none
  f_len : mg "len" = none
  f_list : mg "list" = none
  f_max : mg "max" = none
  f_range : mg "range" = none
  f_set : mg "set" = none
  f_sorted : mg "sorted" = none
  f_str : mg "str" = none
  f_tuple : mg "tuple" = none
  c_MOST_DEPTH : ∃ t, mg "MOST_DEPTH" = some (.int 40 t)
  c_MOST_FREE : ∃ t, mg "MOST_FREE" = some (.int 6 t)
  c_LETTERS : ∃ t, mg "LETTERS" = some (.str (sOf [97, 98, 99, 100, 101, 102, 103, 104, 105, 106, 107, 108, 109, 110, 111, 112, 113, 114, 115, 116, 117, 118, 119, 120, 121, 122]) t)
  c_ATOMS : mg "ATOMS" = some (.ref (He.ga K "ATOMS")) ∧ ∀ g H, VR K g H (.tup [.str [108, 97, 98, 101, 108], .str [99, 104, 105, 108, 100], .str [98, 101, 108, 111, 119], .str [115, 97, 109, 101], .str [116, 111, 112], .str [105, 110], .str [105, 110, 115, 105, 100, 101], .str [116, 114, 117, 101]]) (.ref (He.ga K "ATOMS"))
  c_QUANTIFIERS : mg "QUANTIFIERS" = some (.ref (He.ga K "QUANTIFIERS")) ∧ ∀ g H, VR K g H (.tup [.str [115, 111, 109, 101], .str [97, 108, 108], .str [115, 111, 109, 101, 115, 101, 116], .str [97, 108, 108, 115, 101, 116]]) (.ref (He.ga K "QUANTIFIERS"))
  e_SayError : PySem.W.excIn K (clsA K [83, 97, 121, 69, 114, 114, 111, 114]) He.veBase "ValueError.__new__" = true ∧ PySem.W.keepIn K (.ref (clsA K [83, 97, 121, 69, 114, 114, 111, 114])) = true ∧ PySem.W.subIn K (.ref (clsA K [83, 97, 121, 69, 114, 114, 111, 114])) (.type "BaseException") = some true ∧ PySem.W.typeIn K (.ref (clsA K [83, 97, 121, 69, 114, 114, 111, 114])) = some (.type "type") ∧ mg "SayError" = some (.ref (clsA K [83, 97, 121, 69, 114, 114, 111, 114]))
  e_InvalidKind : PySem.W.excIn K (clsA K [73, 110, 118, 97, 108, 105, 100, 75, 105, 110, 100]) He.veBase "ValueError.__new__" = true ∧ PySem.W.keepIn K (.ref (clsA K [73, 110, 118, 97, 108, 105, 100, 75, 105, 110, 100])) = true ∧ PySem.W.subIn K (.ref (clsA K [73, 110, 118, 97, 108, 105, 100, 75, 105, 110, 100])) (.type "BaseException") = some true ∧ PySem.W.typeIn K (.ref (clsA K [73, 110, 118, 97, 108, 105, 100, 75, 105, 110, 100])) = some (.type "type") ∧ mg "InvalidKind" = some (.ref (clsA K [73, 110, 118, 97, 108, 105, 100, 75, 105, 110, 100]))
  e_InvalidSentence : PySem.W.excIn K (clsA K [73, 110, 118, 97, 108, 105, 100, 83, 101, 110, 116, 101, 110, 99, 101]) He.veBase "ValueError.__new__" = true ∧ PySem.W.keepIn K (.ref (clsA K [73, 110, 118, 97, 108, 105, 100, 83, 101, 110, 116, 101, 110, 99, 101])) = true ∧ PySem.W.subIn K (.ref (clsA K [73, 110, 118, 97, 108, 105, 100, 83, 101, 110, 116, 101, 110, 99, 101])) (.type "BaseException") = some true ∧ PySem.W.typeIn K (.ref (clsA K [73, 110, 118, 97, 108, 105, 100, 83, 101, 110, 116, 101, 110, 99, 101])) = some (.type "type") ∧ mg "InvalidSentence" = some (.ref (clsA K [73, 110, 118, 97, 108, 105, 100, 83, 101, 110, 116, 101, 110, 99, 101]))
  m_InvalidSentence : ∀ p ∈ ([([83, 97, 121, 69, 114, 114, 111, 114], false), ([73, 110, 118, 97, 108, 105, 100, 75, 105, 110, 100], false), ([73, 110, 118, 97, 108, 105, 100, 83, 101, 110, 116, 101, 110, 99, 101], true)] : List (List Nat × Bool)), PySem.W.exmOne K (.ref (clsA K p.1)) (.ref (clsA K [73, 110, 118, 97, 108, 105, 100, 83, 101, 110, 116, 101, 110, 99, 101])) = some p.2
  x_InvalidSentence : ExcC K (clsA K [73, 110, 118, 97, 108, 105, 100, 83, 101, 110, 116, 101, 110, 99, 101]) ∧ PySem.W.kitOne K (.ref (clsA K [73, 110, 118, 97, 108, 105, 100, 83, 101, 110, 116, 101, 110, 99, 101])) (.ref (clsA K [83, 97, 121, 69, 114, 114, 111, 114])) = some true ∧ mg "SayError" = some (.ref (clsA K [83, 97, 121, 69, 114, 114, 111, 114]))
abbrev FnP (K : PySem.W.Frag) (x : Str) (i : Nat) (fd : FuncData) : Prop := FunD K x x (defArgs (top i)) (defBody (top i)) (defScope (top i)) [] [] (He.ga K x) fd
section
variable {P : Program} {w : World} {K : PySem.W.Frag} {mg : Str → Option Value} {base : Heap} {k : Nat} {Γ : Gam}
theorem s_check_kind : FnScope ["kind", "ways", "labels", "label"] ["kind"] (defScope (top 6)) := ⟨rfl, rfl, rfl, by decide +kernel, rfl, by decide +kernel, by decide +kernel⟩
theorem w_check_kind (F : AllK P w K mg base sig k Γ) (fc : Fc K mg) {fa : Addr} {cdv : Value} {A : Around} {outer : List PySem.Env} {s : Shared} {H : Hp} {E : XK} (hr : Room k (A.deeper (envOfC "check_kind" (defScope (top 6)) s.heap.objs.size fa cdv)))
    (hp : PassesOwn (model P w) (A.deeper (envOfC "check_kind" (defScope (top 6)) s.heap.objs.size fa cdv)) (envOfC "check_kind" (defScope (top 6)) s.heap.objs.size fa cdv) (cxOf (L2.CX P w) P w K mg base ["kind", "ways", "labels", "label"] "check_kind" (defScope (top 6)) fa cdv A outer s H E).xe)
    (tk : Takes (cxOf (L2.CX P w) P w K mg base ["kind", "ways", "labels", "label"] "check_kind" (defScope (top 6)) fa cdv A outer s H E) (WD E)) :
    GSs (cxOf (L2.CX P w) P w K mg base ["kind", "ways", "labels", "label"] "check_kind" (defScope (top 6)) fa cdv A outer s H E) (WD E) (defBody (top 6)) (b_check_kind Γ) := by
  have nd : (["kind", "ways", "labels", "label"] : List Str).Nodup := s_check_kind.nd
  have hu : (cxOf (L2.CX P w) P w K mg base ["kind", "ways", "labels", "label"] "check_kind" (defScope (top 6)) fa cdv A outer s H E).A.units + 200 < cLine := by
    have := hr.un
    show (A.deeper (envOfC "check_kind" (defScope (top 6)) s.heap.objs.size fa cdv)).units + 200 < cLine
    omega
  have hu1 : (cxOf (L2.CX P w) P w K mg base ["kind", "ways", "labels", "label"] "check_kind" (defScope (top 6)) fa cdv A outer s H E).A.units + 1 < cLine := by omega
  exact (gs_cons (gs_asg (ge_var 0) (gg_tup rfl (ggs_cons (gg_name 1 nd) (ggs_cons (gg_name 2 nd) ggs_nil))))
    (gs_cons (gs_if (GW.pt (gw_or (gt_cmp (og_notIn hu) (ge_var 1) (ge_tup (ga_cons ge_int (ga_cons ge_int ga_nil)))) (gw_or (gt_not (gt_chain og_le og_le ge_int (ge_len (ge_var 2) fc.f_len) ge_int)) (gw_or1 (gt_cmp (og_ne hu) (ge_t1 c1_list (ge_var 2) fc.f_list) (ge_sortSet rfl hu (ge_var 2) fc.f_sorted fc.f_set)))))) (gs_cons (gs_raise [73, 110, 118, 97, 108, 105, 100, 75, 105, 110, 100] rfl tk fc.e_InvalidKind.1 fc.e_InvalidKind.2.2.2.2 fc.e_InvalidKind.2.1 fc.e_InvalidKind.2.2.1 fc.e_InvalidKind.2.2.2.1)
    gs_nil) gs_nil)
    (gs_cons (gs_if (gt_not (gt_tru (ge_b1 (c1_all rfl) (ge_lc fin_frozen [("label", 3)] rfl nd (gi_seq (ge_var 2)) (fun _ _ _ _ _ => (gc_name 3 nd)) (fun _ _ _ _ _ => gts_nil) (fun _ _ _ _ _ => (ge_and (ge_cmp (og_eq hu) (ge_len (ge_var 3) fc.f_len) ge_int) (ge_one (ge_cmp (og_in hu) (ge_var 3) (ge_tops [97, 98, 99, 100, 101, 102, 103, 104, 105, 106, 107, 108, 109, 110, 111, 112, 113, 114, 115, 116, 117, 118, 119, 120, 121, 122] fc.c_LETTERS)))))) fc.f_all))) (gs_cons (gs_raise [73, 110, 118, 97, 108, 105, 100, 75, 105, 110, 100] rfl tk fc.e_InvalidKind.1 fc.e_InvalidKind.2.2.2.2 fc.e_InvalidKind.2.1 fc.e_InvalidKind.2.2.1 fc.e_InvalidKind.2.2.2.1)
    gs_nil) gs_nil)
    gs_nil)))
theorem k_check_kind {fd : FuncData} (F : AllK P w K mg base sig k Γ) (fc : Fc K mg) (U : FnP K "check_kind" 6 fd) : FnOk P w K mg base (L2.CX P w) (k + 1) (He.ga K "check_kind") fd ["kind"] (spG K (d_check_kind Γ) 1) :=
  fn_G U s_check_kind (fun args h _ => .inl rfl) fun cdv A outer s H E hr hp tk => w_check_kind F fc hr hp tk
theorem s_atom_variables : FnScope ["formula", "word"] ["formula"] (defScope (top 12)) := ⟨rfl, rfl, rfl, by decide +kernel, rfl, by decide +kernel, by decide +kernel⟩
theorem w_atom_variables (F : AllK P w K mg base sig k Γ) (fc : Fc K mg) {fa : Addr} {cdv : Value} {A : Around} {outer : List PySem.Env} {s : Shared} {H : Hp} {E : XK} (hr : Room k (A.deeper (envOfC "atom_variables" (defScope (top 12)) s.heap.objs.size fa cdv)))
    (hp : PassesOwn (model P w) (A.deeper (envOfC "atom_variables" (defScope (top 12)) s.heap.objs.size fa cdv)) (envOfC "atom_variables" (defScope (top 12)) s.heap.objs.size fa cdv) (cxOf (L2.CX P w) P w K mg base ["formula", "word"] "atom_variables" (defScope (top 12)) fa cdv A outer s H E).xe)
    (tk : Takes (cxOf (L2.CX P w) P w K mg base ["formula", "word"] "atom_variables" (defScope (top 12)) fa cdv A outer s H E) (WD E)) :
    GSs (cxOf (L2.CX P w) P w K mg base ["formula", "word"] "atom_variables" (defScope (top 12)) fa cdv A outer s H E) (WD E) (defBody (top 12)) (b_atom_variables Γ) := by
  have nd : (["formula", "word"] : List Str).Nodup := s_atom_variables.nd
  have hu : (cxOf (L2.CX P w) P w K mg base ["formula", "word"] "atom_variables" (defScope (top 12)) fa cdv A outer s H E).A.units + 200 < cLine := by
    have := hr.un
    show (A.deeper (envOfC "atom_variables" (defScope (top 12)) s.heap.objs.size fa cdv)).units + 200 < cLine
    omega
  have hu1 : (cxOf (L2.CX P w) P w K mg base ["formula", "word"] "atom_variables" (defScope (top 12)) fa cdv A outer s H E).A.units + 1 < cLine := by omega
  exact (gs_cons (gs_set 1 (ge_ix hu1 (ge_var 0) ge_int) nd)
    (gs_cons (gs_if (gt_cmp (og_eq hu) (ge_var 1) (ge_str [116, 114, 117, 101])) (gs_cons (gs_ret (ge_lst ga_nil))
    gs_nil) gs_nil)
    (gs_cons (gs_if (gt_cmp (og_eq hu) (ge_var 1) (ge_str [108, 97, 98, 101, 108])) (gs_cons (gs_ret (ge_lst (ga_cons (ge_ix hu1 (ge_var 0) ge_int) ga_nil)))
    gs_nil) gs_nil)
    (gs_cons (gs_if (gt_cmp (og_eq hu) (ge_var 1) (ge_str [99, 104, 105, 108, 100])) (gs_cons (gs_ret (ge_lst (ga_cons (ge_ix hu1 (ge_var 0) ge_int) (ga_cons (ge_ix hu1 (ge_var 0) ge_int) ga_nil))))
    gs_nil) gs_nil)
    (gs_cons (gs_ret (ge_t1 c1_list (ge_cut (ge_var 0) (go_some ge_int) go_none) fc.f_list))
    gs_nil)))))
theorem k_atom_variables {fd : FuncData} (F : AllK P w K mg base sig k Γ) (fc : Fc K mg) (U : FnP K "atom_variables" 12 fd) : FnOk P w K mg base (L2.CX P w) (k + 1) (He.ga K "atom_variables") fd ["formula"] (spG K (d_atom_variables Γ) 1) :=
  fn_G U s_atom_variables (fun args h _ => .inl rfl) fun cdv A outer s H E hr hp tk => w_atom_variables F fc hr hp tk
theorem s_inner : FnScope ["formula", "word"] ["formula"] (defScope (top 13)) := ⟨rfl, rfl, rfl, by decide +kernel, rfl, by decide +kernel, by decide +kernel⟩
theorem w_inner (F : AllK P w K mg base sig k Γ) (fc : Fc K mg) {fa : Addr} {cdv : Value} {A : Around} {outer : List PySem.Env} {s : Shared} {H : Hp} {E : XK} (hr : Room k (A.deeper (envOfC "inner" (defScope (top 13)) s.heap.objs.size fa cdv)))
    (hp : PassesOwn (model P w) (A.deeper (envOfC "inner" (defScope (top 13)) s.heap.objs.size fa cdv)) (envOfC "inner" (defScope (top 13)) s.heap.objs.size fa cdv) (cxOf (L2.CX P w) P w K mg base ["formula", "word"] "inner" (defScope (top 13)) fa cdv A outer s H E).xe)
    (tk : Takes (cxOf (L2.CX P w) P w K mg base ["formula", "word"] "inner" (defScope (top 13)) fa cdv A outer s H E) (WD E)) :
    GSs (cxOf (L2.CX P w) P w K mg base ["formula", "word"] "inner" (defScope (top 13)) fa cdv A outer s H E) (WD E) (defBody (top 13)) (b_inner Γ) := by
  have nd : (["formula", "word"] : List Str).Nodup := s_inner.nd
  have hu : (cxOf (L2.CX P w) P w K mg base ["formula", "word"] "inner" (defScope (top 13)) fa cdv A outer s H E).A.units + 200 < cLine := by
    have := hr.un
    show (A.deeper (envOfC "inner" (defScope (top 13)) s.heap.objs.size fa cdv)).units + 200 < cLine
    omega
  have hu1 : (cxOf (L2.CX P w) P w K mg base ["formula", "word"] "inner" (defScope (top 13)) fa cdv A outer s H E).A.units + 1 < cLine := by omega
  exact (gs_cons (gs_set 1 (ge_ix hu1 (ge_var 0) ge_int) nd)
    (gs_cons (gs_if (gt_cmp (og_in hu) (ge_var 1) (ge_top (y := .ref (He.ga K "ATOMS")) fc.c_ATOMS.1 rfl fc.c_ATOMS.2)) (gs_cons (gs_ret (ge_lst ga_nil))
    gs_nil) gs_nil)
    (gs_cons (gs_if (gt_cmp (og_eq hu) (ge_var 1) (ge_str [110, 111, 116])) (gs_cons (gs_ret (ge_lst (ga_cons (ge_ix hu1 (ge_var 0) ge_int) ga_nil)))
    gs_nil) gs_nil)
    (gs_cons (gs_if (gt_cmp (og_in hu) (ge_var 1) (ge_top (y := .ref (He.ga K "QUANTIFIERS")) fc.c_QUANTIFIERS.1 rfl fc.c_QUANTIFIERS.2)) (gs_cons (gs_ret (ge_lst (ga_cons (ge_ix hu1 (ge_var 0) ge_int) ga_nil)))
    gs_nil) gs_nil)
    (gs_cons (gs_ret (ge_lst (ga_cons (ge_ix hu1 (ge_var 0) ge_int) (ga_cons (ge_ix hu1 (ge_var 0) ge_int) ga_nil))))
    gs_nil)))))
theorem k_inner {fd : FuncData} (F : AllK P w K mg base sig k Γ) (fc : Fc K mg) (U : FnP K "inner" 13 fd) : FnOk P w K mg base (L2.CX P w) (k + 1) (He.ga K "inner") fd ["formula"] (spG K (d_inner Γ) 1) :=
  fn_G U s_inner (fun args h _ => .inl rfl) fun cdv A outer s H E hr hp tk => w_inner F fc hr hp tk
theorem s_free_variables : FnScope ["formula", "found", "part", "name"] ["formula"] (defScope (top 14)) := ⟨rfl, rfl, rfl, by decide +kernel, rfl, by decide +kernel, by decide +kernel⟩
theorem w_free_variables (F : AllK P w K mg base sig k Γ) (fc : Fc K mg) {fa : Addr} {cdv : Value} {A : Around} {outer : List PySem.Env} {s : Shared} {H : Hp} {E : XK} (hr : Room k (A.deeper (envOfC "free_variables" (defScope (top 14)) s.heap.objs.size fa cdv)))
    (hp : PassesOwn (model P w) (A.deeper (envOfC "free_variables" (defScope (top 14)) s.heap.objs.size fa cdv)) (envOfC "free_variables" (defScope (top 14)) s.heap.objs.size fa cdv) (cxOf (L2.CX P w) P w K mg base ["formula", "found", "part", "name"] "free_variables" (defScope (top 14)) fa cdv A outer s H E).xe)
    (tk : Takes (cxOf (L2.CX P w) P w K mg base ["formula", "found", "part", "name"] "free_variables" (defScope (top 14)) fa cdv A outer s H E) (WD E)) :
    GSs (cxOf (L2.CX P w) P w K mg base ["formula", "found", "part", "name"] "free_variables" (defScope (top 14)) fa cdv A outer s H E) (WD E) (defBody (top 14)) (b_free_variables Γ) := by
  have nd : (["formula", "found", "part", "name"] : List Str).Nodup := s_free_variables.nd
  have hu : (cxOf (L2.CX P w) P w K mg base ["formula", "found", "part", "name"] "free_variables" (defScope (top 14)) fa cdv A outer s H E).A.units + 200 < cLine := by
    have := hr.un
    show (A.deeper (envOfC "free_variables" (defScope (top 14)) s.heap.objs.size fa cdv)).units + 200 < cLine
    omega
  have hu1 : (cxOf (L2.CX P w) P w K mg base ["formula", "found", "part", "name"] "free_variables" (defScope (top 14)) fa cdv A outer s H E).A.units + 1 < cLine := by omega
  exact (gs_cons (gs_if (gt_cmp (og_in hu) (ge_ix hu1 (ge_var 0) ge_int) (ge_top (y := .ref (He.ga K "ATOMS")) fc.c_ATOMS.1 rfl fc.c_ATOMS.2)) (gs_cons (gs_ret (ge_sortSet rfl hu (ge_fn (F 1 _ _ rfl) hr tk (gan_cons (ge_var 0) gan_nil)) fc.f_sorted fc.f_set))
    gs_nil) gs_nil)
    (gs_cons (gs_set 1 ge_dnew nd)
    (gs_cons (gs_for hp rfl (gi_seq (ge_fn (F 2 _ _ rfl) hr tk (gan_cons (ge_var 0) gan_nil))) (gg_name 2 nd) (gs_cons (gs_for hp rfl (gi_seq (ge_fn (F 3 _ _ rfl) hr tk (gan_cons (ge_var 2) gan_nil))) (gg_name 3 nd) (gs_cons (gs_asg ge_bl (gg_sub hu1 (ge_var 1) (ge_var 3)))
    gs_nil))
    gs_nil))
    (gs_cons (gs_if (gt_cmp (og_in hu) (ge_ix hu1 (ge_var 0) ge_int) (ge_top (y := .ref (He.ga K "QUANTIFIERS")) fc.c_QUANTIFIERS.1 rfl fc.c_QUANTIFIERS.2)) (gs_cons (gs_expr (ge_pop2 (ge_var 1) (ge_ix hu1 (ge_var 0) ge_int) ge_non))
    gs_nil) gs_nil)
    (gs_cons (gs_ret (ge_b1 (c1_sortDic rfl) (ge_var 1) fc.f_sorted))
    gs_nil)))))
theorem k_free_variables {fd : FuncData} (F : AllK P w K mg base sig k Γ) (fc : Fc K mg) (U : FnP K "free_variables" 14 fd) : FnOk P w K mg base (L2.CX P w) (k + 1) (He.ga K "free_variables") fd ["formula"] (spG K (d_free_variables Γ) 1) :=
  fn_G U s_free_variables (fun args h _ => .inr rfl) fun cdv A outer s H E hr hp tk => w_free_variables F fc hr hp tk
theorem s_depth : FnScope ["formula", "part"] ["formula"] (defScope (top 15)) := ⟨rfl, rfl, rfl, by decide +kernel, rfl, by decide +kernel, by decide +kernel⟩
theorem w_depth (F : AllK P w K mg base sig k Γ) (fc : Fc K mg) {fa : Addr} {cdv : Value} {A : Around} {outer : List PySem.Env} {s : Shared} {H : Hp} {E : XK} (hr : Room k (A.deeper (envOfC "depth" (defScope (top 15)) s.heap.objs.size fa cdv)))
    (hp : PassesOwn (model P w) (A.deeper (envOfC "depth" (defScope (top 15)) s.heap.objs.size fa cdv)) (envOfC "depth" (defScope (top 15)) s.heap.objs.size fa cdv) (cxOf (L2.CX P w) P w K mg base ["formula", "part"] "depth" (defScope (top 15)) fa cdv A outer s H E).xe)
    (tk : Takes (cxOf (L2.CX P w) P w K mg base ["formula", "part"] "depth" (defScope (top 15)) fa cdv A outer s H E) (WD E)) :
    GSs (cxOf (L2.CX P w) P w K mg base ["formula", "part"] "depth" (defScope (top 15)) fa cdv A outer s H E) (WD E) (defBody (top 15)) (b_depth Γ) := by
  have nd : (["formula", "part"] : List Str).Nodup := s_depth.nd
  have hu : (cxOf (L2.CX P w) P w K mg base ["formula", "part"] "depth" (defScope (top 15)) fa cdv A outer s H E).A.units + 200 < cLine := by
    have := hr.un
    show (A.deeper (envOfC "depth" (defScope (top 15)) s.heap.objs.size fa cdv)).units + 200 < cLine
    omega
  have hu1 : (cxOf (L2.CX P w) P w K mg base ["formula", "part"] "depth" (defScope (top 15)) fa cdv A outer s H E).A.units + 1 < cLine := by omega
  exact (gs_cons (gs_ret (ge_bin og_add ge_int (ge_b1 (c1_max rfl) (ge_bin og_add (ge_lst (ga_cons ge_int ga_nil)) (ge_lc fin_frozen [("part", 1)] rfl nd (gi_seq (ge_fn (F 2 _ _ rfl) hr tk (gan_cons (ge_var 0) gan_nil))) (fun _ _ _ _ _ => (gc_name 1 nd)) (fun _ _ _ _ _ => gts_nil) (fun _ _ _ _ _ => (ge_fn (F 4 _ _ rfl) hr GH.takes0 (gan_cons (ge_var 1) gan_nil))))) fc.f_max)))
    gs_nil)
theorem k_depth {fd : FuncData} (F : AllK P w K mg base sig k Γ) (fc : Fc K mg) (U : FnP K "depth" 15 fd) : FnOk P w K mg base (L2.CX P w) (k + 1) (He.ga K "depth") fd ["formula"] (spG K (d_depth Γ) 1) :=
  fn_G U s_depth (fun args h _ => .inl rfl) fun cdv A outer s H E hr hp tk => w_depth F fc hr hp tk
theorem s_check_parts : FnScope ["kind", "formula", "part", "ways", "labels"] ["kind", "formula"] (defScope (top 16)) := ⟨rfl, rfl, rfl, by decide +kernel, rfl, by decide +kernel, by decide +kernel⟩
theorem w_check_parts (F : AllK P w K mg base sig k Γ) (fc : Fc K mg) {fa : Addr} {cdv : Value} {A : Around} {outer : List PySem.Env} {s : Shared} {H : Hp} {E : XK} (hr : Room k (A.deeper (envOfC "check_parts" (defScope (top 16)) s.heap.objs.size fa cdv)))
    (hp : PassesOwn (model P w) (A.deeper (envOfC "check_parts" (defScope (top 16)) s.heap.objs.size fa cdv)) (envOfC "check_parts" (defScope (top 16)) s.heap.objs.size fa cdv) (cxOf (L2.CX P w) P w K mg base ["kind", "formula", "part", "ways", "labels"] "check_parts" (defScope (top 16)) fa cdv A outer s H E).xe)
    (tk : Takes (cxOf (L2.CX P w) P w K mg base ["kind", "formula", "part", "ways", "labels"] "check_parts" (defScope (top 16)) fa cdv A outer s H E) (WD E)) :
    GSs (cxOf (L2.CX P w) P w K mg base ["kind", "formula", "part", "ways", "labels"] "check_parts" (defScope (top 16)) fa cdv A outer s H E) (WD E) (defBody (top 16)) (b_check_parts Γ) := by
  have nd : (["kind", "formula", "part", "ways", "labels"] : List Str).Nodup := s_check_parts.nd
  have hu : (cxOf (L2.CX P w) P w K mg base ["kind", "formula", "part", "ways", "labels"] "check_parts" (defScope (top 16)) fa cdv A outer s H E).A.units + 200 < cLine := by
    have := hr.un
    show (A.deeper (envOfC "check_parts" (defScope (top 16)) s.heap.objs.size fa cdv)).units + 200 < cLine
    omega
  have hu1 : (cxOf (L2.CX P w) P w K mg base ["kind", "formula", "part", "ways", "labels"] "check_parts" (defScope (top 16)) fa cdv A outer s H E).A.units + 1 < cLine := by omega
  exact (gs_cons (gs_asg (ge_var 0) (gg_tup rfl (ggs_cons (gg_name 3 nd) (ggs_cons (gg_name 4 nd) ggs_nil))))
    (gs_cons (gs_if (GW.pt (gw_and (gt_cmp (og_eq hu) (ge_ix hu1 (ge_var 1) ge_int) (ge_str [108, 97, 98, 101, 108])) (gw_and1 (gt_cmp (og_notIn hu) (ge_ix hu1 (ge_var 1) ge_int) (ge_var 4))))) (gs_cons (gs_raise [73, 110, 118, 97, 108, 105, 100, 83, 101, 110, 116, 101, 110, 99, 101] rfl tk fc.e_InvalidSentence.1 fc.e_InvalidSentence.2.2.2.2 fc.e_InvalidSentence.2.1 fc.e_InvalidSentence.2.2.1 fc.e_InvalidSentence.2.2.2.1)
    gs_nil) gs_nil)
    (gs_cons (gs_if (GW.pt (gw_and (gt_cmp (og_eq hu) (ge_ix hu1 (ge_var 1) ge_int) (ge_str [99, 104, 105, 108, 100])) (gw_and1 (gt_cmp og_ge (ge_ix hu1 (ge_var 1) ge_int) (ge_var 3))))) (gs_cons (gs_raise [73, 110, 118, 97, 108, 105, 100, 83, 101, 110, 116, 101, 110, 99, 101] rfl tk fc.e_InvalidSentence.1 fc.e_InvalidSentence.2.2.2.2 fc.e_InvalidSentence.2.1 fc.e_InvalidSentence.2.2.1 fc.e_InvalidSentence.2.2.2.1)
    gs_nil) gs_nil)
    (gs_cons (gs_if (gt_cmp og_gt (ge_len (ge_fn (F 3 _ _ rfl) hr tk (gan_cons (ge_var 1) gan_nil)) fc.f_len) (ge_topi fc.c_MOST_FREE)) (gs_cons (gs_raise [73, 110, 118, 97, 108, 105, 100, 83, 101, 110, 116, 101, 110, 99, 101] rfl tk fc.e_InvalidSentence.1 fc.e_InvalidSentence.2.2.2.2 fc.e_InvalidSentence.2.1 fc.e_InvalidSentence.2.2.1 fc.e_InvalidSentence.2.2.2.1)
    gs_nil) gs_nil)
    (gs_cons (gs_for hp rfl (gi_seq (ge_fn (F 2 _ _ rfl) hr tk (gan_cons (ge_var 1) gan_nil))) (gg_name 2 nd) (gs_cons (gs_expr (ge_fn (F 5 _ _ rfl) hr tk (gan_cons (ge_var 0) (gan_cons (ge_var 2) gan_nil))))
    gs_nil))
    gs_nil)))))
theorem k_check_parts {fd : FuncData} (F : AllK P w K mg base sig k Γ) (fc : Fc K mg) (U : FnP K "check_parts" 16 fd) : FnOk P w K mg base (L2.CX P w) (k + 1) (He.ga K "check_parts") fd ["kind", "formula"] (spG K (d_check_parts Γ) 2) :=
  fn_G U s_check_parts (fun args h _ => .inl rfl) fun cdv A outer s H E hr hp tk => w_check_parts F fc hr hp tk
theorem s_check_formula : FnScope ["kind", "formula"] ["kind", "formula"] (defScope (top 17)) := ⟨rfl, rfl, rfl, by decide +kernel, rfl, by decide +kernel, by decide +kernel⟩
theorem w_check_formula (F : AllK P w K mg base sig k Γ) (fc : Fc K mg) {fa : Addr} {cdv : Value} {A : Around} {outer : List PySem.Env} {s : Shared} {H : Hp} {E : XK} (hr : Room k (A.deeper (envOfC "check_formula" (defScope (top 17)) s.heap.objs.size fa cdv)))
    (hp : PassesOwn (model P w) (A.deeper (envOfC "check_formula" (defScope (top 17)) s.heap.objs.size fa cdv)) (envOfC "check_formula" (defScope (top 17)) s.heap.objs.size fa cdv) (cxOf (L2.CX P w) P w K mg base ["kind", "formula"] "check_formula" (defScope (top 17)) fa cdv A outer s H E).xe)
    (tk : Takes (cxOf (L2.CX P w) P w K mg base ["kind", "formula"] "check_formula" (defScope (top 17)) fa cdv A outer s H E) (WD E)) :
    GSs (cxOf (L2.CX P w) P w K mg base ["kind", "formula"] "check_formula" (defScope (top 17)) fa cdv A outer s H E) (WD E) (defBody (top 17)) (b_check_formula Γ) := by
  have nd : (["kind", "formula"] : List Str).Nodup := s_check_formula.nd
  have hu : (cxOf (L2.CX P w) P w K mg base ["kind", "formula"] "check_formula" (defScope (top 17)) fa cdv A outer s H E).A.units + 200 < cLine := by
    have := hr.un
    show (A.deeper (envOfC "check_formula" (defScope (top 17)) s.heap.objs.size fa cdv)).units + 200 < cLine
    omega
  have hu1 : (cxOf (L2.CX P w) P w K mg base ["kind", "formula"] "check_formula" (defScope (top 17)) fa cdv A outer s H E).A.units + 1 < cLine := by omega
  exact (gs_cons (gs_expr (ge_fn (F 0 _ _ rfl) hr tk (gan_cons (ge_var 0) gan_nil)))
    (gs_cons (gs_if (gt_cmp og_gt (ge_fn (F 4 _ _ rfl) hr tk (gan_cons (ge_var 1) gan_nil)) (ge_topi fc.c_MOST_DEPTH)) (gs_cons (gs_raise [73, 110, 118, 97, 108, 105, 100, 83, 101, 110, 116, 101, 110, 99, 101] rfl tk fc.e_InvalidSentence.1 fc.e_InvalidSentence.2.2.2.2 fc.e_InvalidSentence.2.1 fc.e_InvalidSentence.2.2.1 fc.e_InvalidSentence.2.2.2.1)
    gs_nil) gs_nil)
    (gs_cons (gs_expr (ge_fn (F 5 _ _ rfl) hr tk (gan_cons (ge_var 0) (gan_cons (ge_var 1) gan_nil))))
    gs_nil)))
theorem k_check_formula {fd : FuncData} (F : AllK P w K mg base sig k Γ) (fc : Fc K mg) (U : FnP K "check_formula" 17 fd) : FnOk P w K mg base (L2.CX P w) (k + 1) (He.ga K "check_formula") fd ["kind", "formula"] (spG K (d_check_formula Γ) 2) :=
  fn_G U s_check_formula (fun args h _ => .inl rfl) fun cdv A outer s H E hr hp tk => w_check_formula F fc hr hp tk
theorem s_check_sentence : FnScope ["kind", "formula"] ["kind", "formula"] (defScope (top 18)) := ⟨rfl, rfl, rfl, by decide +kernel, rfl, by decide +kernel, by decide +kernel⟩
theorem w_check_sentence (F : AllK P w K mg base sig k Γ) (fc : Fc K mg) {fa : Addr} {cdv : Value} {A : Around} {outer : List PySem.Env} {s : Shared} {H : Hp} {E : XK} (hr : Room k (A.deeper (envOfC "check_sentence" (defScope (top 18)) s.heap.objs.size fa cdv)))
    (hp : PassesOwn (model P w) (A.deeper (envOfC "check_sentence" (defScope (top 18)) s.heap.objs.size fa cdv)) (envOfC "check_sentence" (defScope (top 18)) s.heap.objs.size fa cdv) (cxOf (L2.CX P w) P w K mg base ["kind", "formula"] "check_sentence" (defScope (top 18)) fa cdv A outer s H E).xe)
    (tk : Takes (cxOf (L2.CX P w) P w K mg base ["kind", "formula"] "check_sentence" (defScope (top 18)) fa cdv A outer s H E) (WD E)) :
    GSs (cxOf (L2.CX P w) P w K mg base ["kind", "formula"] "check_sentence" (defScope (top 18)) fa cdv A outer s H E) (WD E) (defBody (top 18)) (b_check_sentence Γ) := by
  have nd : (["kind", "formula"] : List Str).Nodup := s_check_sentence.nd
  have hu : (cxOf (L2.CX P w) P w K mg base ["kind", "formula"] "check_sentence" (defScope (top 18)) fa cdv A outer s H E).A.units + 200 < cLine := by
    have := hr.un
    show (A.deeper (envOfC "check_sentence" (defScope (top 18)) s.heap.objs.size fa cdv)).units + 200 < cLine
    omega
  have hu1 : (cxOf (L2.CX P w) P w K mg base ["kind", "formula"] "check_sentence" (defScope (top 18)) fa cdv A outer s H E).A.units + 1 < cLine := by omega
  exact (gs_cons (gs_expr (ge_fn (F 6 _ _ rfl) hr tk (gan_cons (ge_var 0) (gan_cons (ge_var 1) gan_nil))))
    (gs_cons (gs_if (gt_tru (ge_fn (F 3 _ _ rfl) hr tk (gan_cons (ge_var 1) gan_nil))) (gs_cons (gs_raise [73, 110, 118, 97, 108, 105, 100, 83, 101, 110, 116, 101, 110, 99, 101] rfl tk fc.e_InvalidSentence.1 fc.e_InvalidSentence.2.2.2.2 fc.e_InvalidSentence.2.1 fc.e_InvalidSentence.2.2.1 fc.e_InvalidSentence.2.2.2.1)
    gs_nil) gs_nil)
    gs_nil))
theorem k_check_sentence {fd : FuncData} (F : AllK P w K mg base sig k Γ) (fc : Fc K mg) (U : FnP K "check_sentence" 18 fd) : FnOk P w K mg base (L2.CX P w) (k + 1) (He.ga K "check_sentence") fd ["kind", "formula"] (spG K (d_check_sentence Γ) 2) :=
  fn_G U s_check_sentence (fun args h _ => .inl rfl) fun cdv A outer s H E hr hp tk => w_check_sentence F fc hr hp tk
theorem s__law_tape : FnScope ["script", "cells", "seed", "cell"] ["script"] (defScope (top 20)) := ⟨rfl, rfl, rfl, by decide +kernel, rfl, by decide +kernel, by decide +kernel⟩
theorem w__law_tape (F : AllK P w K mg base sig k Γ) (fc : Fc K mg) {fa : Addr} {cdv : Value} {A : Around} {outer : List PySem.Env} {s : Shared} {H : Hp} {E : XK} (hr : Room k (A.deeper (envOfC "_law_tape" (defScope (top 20)) s.heap.objs.size fa cdv)))
    (hp : PassesOwn (model P w) (A.deeper (envOfC "_law_tape" (defScope (top 20)) s.heap.objs.size fa cdv)) (envOfC "_law_tape" (defScope (top 20)) s.heap.objs.size fa cdv) (cxOf (L2.CX P w) P w K mg base ["script", "cells", "seed", "cell"] "_law_tape" (defScope (top 20)) fa cdv A outer s H E).xe)
    (tk : Takes (cxOf (L2.CX P w) P w K mg base ["script", "cells", "seed", "cell"] "_law_tape" (defScope (top 20)) fa cdv A outer s H E) (WD E)) :
    GSs (cxOf (L2.CX P w) P w K mg base ["script", "cells", "seed", "cell"] "_law_tape" (defScope (top 20)) fa cdv A outer s H E) (WD E) (defBody (top 20)) (b__law_tape Γ) := by
  have nd : (["script", "cells", "seed", "cell"] : List Str).Nodup := s__law_tape.nd
  have hu : (cxOf (L2.CX P w) P w K mg base ["script", "cells", "seed", "cell"] "_law_tape" (defScope (top 20)) fa cdv A outer s H E).A.units + 200 < cLine := by
    have := hr.un
    show (A.deeper (envOfC "_law_tape" (defScope (top 20)) s.heap.objs.size fa cdv)).units + 200 < cLine
    omega
  have hu1 : (cxOf (L2.CX P w) P w K mg base ["script", "cells", "seed", "cell"] "_law_tape" (defScope (top 20)) fa cdv A outer s H E).A.units + 1 < cLine := by omega
  exact (gs_cons (gs_setLc fin_frozen 1 [("cell", 3)] rfl nd (gi_seq (ge_var 0)) (fun _ _ _ _ _ => (gc_name 3 nd)) (fun _ _ _ _ _ => gts_nil) (fun _ _ _ _ _ => (ge_b1 c1_abs (ge_t1 c1_int (ge_var 3) fc.f_int) fc.f_abs)))
    (gs_cons (gs_set 2 ge_int nd)
    (gs_cons (gs_for hp rfl (gi_seq (ge_var 1)) (gg_name 3 nd) (gs_cons (gs_set 2 (ge_bin og_mod (ge_t1 c1_int (ge_bin og_add (ge_bin og_mul (ge_var 2) ge_int) (ge_var 3)) fc.f_int) ge_int) nd)
    gs_nil))
    (gs_cons (gs_ret (ge_disp (gps_cons (ge_str [99, 101, 108, 108, 115]) (ge_var 1) (gps_cons (ge_str [97, 116]) ge_int (gps_cons (ge_str [108, 101, 102, 116]) ge_int (gps_cons (ge_str [115, 101, 101, 100]) (ge_var 2) (gps_cons (ge_str [115, 97, 108, 116]) ge_int gps_nil)))))))
    gs_nil))))
theorem k__law_tape {fd : FuncData} (F : AllK P w K mg base sig k Γ) (fc : Fc K mg) (U : FnP K "_law_tape" 20 fd) : FnOk P w K mg base (L2.CX P w) (k + 1) (He.ga K "_law_tape") fd ["script"] (spG K (d__law_tape Γ) 1) :=
  fn_G U s__law_tape (fun args h _ => .inl rfl) fun cdv A outer s H E hr hp tk => w__law_tape F fc hr hp tk
theorem s__law_take : FnScope ["tape", "many", "mixed", "drawn"] ["tape", "many"] (defScope (top 21)) := ⟨rfl, rfl, rfl, by decide +kernel, rfl, by decide +kernel, by decide +kernel⟩
theorem w__law_take (F : AllK P w K mg base sig k Γ) (fc : Fc K mg) {fa : Addr} {cdv : Value} {A : Around} {outer : List PySem.Env} {s : Shared} {H : Hp} {E : XK} (hr : Room k (A.deeper (envOfC "_law_take" (defScope (top 21)) s.heap.objs.size fa cdv)))
    (hp : PassesOwn (model P w) (A.deeper (envOfC "_law_take" (defScope (top 21)) s.heap.objs.size fa cdv)) (envOfC "_law_take" (defScope (top 21)) s.heap.objs.size fa cdv) (cxOf (L2.CX P w) P w K mg base ["tape", "many", "mixed", "drawn"] "_law_take" (defScope (top 21)) fa cdv A outer s H E).xe)
    (tk : Takes (cxOf (L2.CX P w) P w K mg base ["tape", "many", "mixed", "drawn"] "_law_take" (defScope (top 21)) fa cdv A outer s H E) (WD E)) :
    GSs (cxOf (L2.CX P w) P w K mg base ["tape", "many", "mixed", "drawn"] "_law_take" (defScope (top 21)) fa cdv A outer s H E) (WD E) (defBody (top 21)) (b__law_take Γ) := by
  have nd : (["tape", "many", "mixed", "drawn"] : List Str).Nodup := s__law_take.nd
  have hu : (cxOf (L2.CX P w) P w K mg base ["tape", "many", "mixed", "drawn"] "_law_take" (defScope (top 21)) fa cdv A outer s H E).A.units + 200 < cLine := by
    have := hr.un
    show (A.deeper (envOfC "_law_take" (defScope (top 21)) s.heap.objs.size fa cdv)).units + 200 < cLine
    omega
  have hu1 : (cxOf (L2.CX P w) P w K mg base ["tape", "many", "mixed", "drawn"] "_law_take" (defScope (top 21)) fa cdv A outer s H E).A.units + 1 < cLine := by omega
  exact (gs_cons (gs_if (GW.pt (gw_and (gt_cmp (og_eq hu) (ge_ix hu1 (ge_var 0) (ge_str [108, 101, 102, 116])) ge_int) (gw_and1 (gt_cmp og_lt (ge_ix hu1 (ge_var 0) (ge_str [97, 116])) (ge_len (ge_ix hu1 (ge_var 0) (ge_str [99, 101, 108, 108, 115])) fc.f_len))))) (gs_cons (gs_asg (ge_ix hu1 (ge_ix hu1 (ge_var 0) (ge_str [99, 101, 108, 108, 115])) (ge_ix hu1 (ge_var 0) (ge_str [97, 116]))) (gg_sub hu1 (ge_var 0) (ge_str [108, 101, 102, 116])))
    (gs_cons (gs_asg (ge_bin og_add (ge_ix hu1 (ge_var 0) (ge_str [97, 116])) ge_int) (gg_sub hu1 (ge_var 0) (ge_str [97, 116])))
    gs_nil)) gs_nil)
    (gs_cons (gs_if (gt_cmp og_gt (ge_ix hu1 (ge_var 0) (ge_str [108, 101, 102, 116])) ge_int) (gs_cons (gs_set 3 (ge_bin og_mod (ge_t1 c1_int (ge_ix hu1 (ge_var 0) (ge_str [108, 101, 102, 116])) fc.f_int) (ge_var 1)) nd)
    (gs_cons (gs_asg (ge_bin og_div (ge_ix hu1 (ge_var 0) (ge_str [108, 101, 102, 116])) (ge_var 1)) (gg_sub hu1 (ge_var 0) (ge_str [108, 101, 102, 116])))
    (gs_cons (gs_ret (ge_var 3))
    gs_nil))) gs_nil)
    (gs_cons (gs_asg (ge_bin og_add (ge_ix hu1 (ge_var 0) (ge_str [115, 97, 108, 116])) ge_int) (gg_sub hu1 (ge_var 0) (ge_str [115, 97, 108, 116])))
    (gs_cons (gs_set 2 (ge_bin og_mod (ge_t1 c1_int (ge_bin og_add (ge_bin og_mul (ge_ix hu1 (ge_var 0) (ge_str [115, 101, 101, 100])) ge_int) (ge_bin og_mul (ge_ix hu1 (ge_var 0) (ge_str [115, 97, 108, 116])) ge_int)) fc.f_int) ge_int) nd)
    (gs_cons (gs_set 2 (ge_bin og_mod (ge_t1 c1_int (ge_bin og_add (ge_bin og_add (ge_bin og_mul (ge_var 2) (ge_var 2)) (ge_bin og_mul (ge_ix hu1 (ge_var 0) (ge_str [115, 97, 108, 116])) ge_int)) ge_int) fc.f_int) ge_int) nd)
    (gs_cons (gs_ret (ge_bin og_mod (ge_t1 c1_int (ge_var 2) fc.f_int) (ge_var 1)))
    gs_nil))))))
theorem k__law_take {fd : FuncData} (F : AllK P w K mg base sig k Γ) (fc : Fc K mg) (U : FnP K "_law_take" 21 fd) : FnOk P w K mg base (L2.CX P w) (k + 1) (He.ga K "_law_take") fd ["tape", "many"] (spG K (d__law_take Γ) 2) :=
  fn_G U s__law_take (fun args h _ => .inl rfl) fun cdv A outer s H E hr hp tk => w__law_take F fc hr hp tk
theorem s__law_is_integer : FnScope ["actual"] ["actual"] (defScope (top 22)) := ⟨rfl, rfl, rfl, by decide +kernel, rfl, by decide +kernel, by decide +kernel⟩
theorem w__law_is_integer (F : AllK P w K mg base sig k Γ) (fc : Fc K mg) {fa : Addr} {cdv : Value} {A : Around} {outer : List PySem.Env} {s : Shared} {H : Hp} {E : XK} (hr : Room k (A.deeper (envOfC "_law_is_integer" (defScope (top 22)) s.heap.objs.size fa cdv)))
    (hp : PassesOwn (model P w) (A.deeper (envOfC "_law_is_integer" (defScope (top 22)) s.heap.objs.size fa cdv)) (envOfC "_law_is_integer" (defScope (top 22)) s.heap.objs.size fa cdv) (cxOf (L2.CX P w) P w K mg base ["actual"] "_law_is_integer" (defScope (top 22)) fa cdv A outer s H E).xe)
    (tk : Takes (cxOf (L2.CX P w) P w K mg base ["actual"] "_law_is_integer" (defScope (top 22)) fa cdv A outer s H E) (WD E)) :
    GSs (cxOf (L2.CX P w) P w K mg base ["actual"] "_law_is_integer" (defScope (top 22)) fa cdv A outer s H E) (WD E) (defBody (top 22)) (b__law_is_integer Γ) := by
  have nd : (["actual"] : List Str).Nodup := s__law_is_integer.nd
  have hu : (cxOf (L2.CX P w) P w K mg base ["actual"] "_law_is_integer" (defScope (top 22)) fa cdv A outer s H E).A.units + 200 < cLine := by
    have := hr.un
    show (A.deeper (envOfC "_law_is_integer" (defScope (top 22)) s.heap.objs.size fa cdv)).units + 200 < cLine
    omega
  have hu1 : (cxOf (L2.CX P w) P w K mg base ["actual"] "_law_is_integer" (defScope (top 22)) fa cdv A outer s H E).A.units + 1 < cLine := by omega
  exact (gs_cons (gs_ret (ge_and (ge_isi .int (ge_var 0) fc.f_isinstance fc.f_int) (ge_one (ge_not (ge_isi .bool (ge_var 0) fc.f_isinstance fc.f_bool)))))
    gs_nil)
theorem k__law_is_integer {fd : FuncData} (F : AllK P w K mg base sig k Γ) (fc : Fc K mg) (U : FnP K "_law_is_integer" 22 fd) : FnOk P w K mg base (L2.CX P w) (k + 1) (He.ga K "_law_is_integer") fd ["actual"] (spG K (d__law_is_integer Γ) 1) :=
  fn_G U s__law_is_integer (fun args h _ => .inl rfl) fun cdv A outer s H E hr hp tk => w__law_is_integer F fc hr hp tk
theorem s__law_same_items : FnScope ["actual", "expected", "k"] ["actual", "expected"] (defScope (top 23)) := ⟨rfl, rfl, rfl, by decide +kernel, rfl, by decide +kernel, by decide +kernel⟩
theorem w__law_same_items (F : AllK P w K mg base sig k Γ) (fc : Fc K mg) {fa : Addr} {cdv : Value} {A : Around} {outer : List PySem.Env} {s : Shared} {H : Hp} {E : XK} (hr : Room k (A.deeper (envOfC "_law_same_items" (defScope (top 23)) s.heap.objs.size fa cdv)))
    (hp : PassesOwn (model P w) (A.deeper (envOfC "_law_same_items" (defScope (top 23)) s.heap.objs.size fa cdv)) (envOfC "_law_same_items" (defScope (top 23)) s.heap.objs.size fa cdv) (cxOf (L2.CX P w) P w K mg base ["actual", "expected", "k"] "_law_same_items" (defScope (top 23)) fa cdv A outer s H E).xe)
    (tk : Takes (cxOf (L2.CX P w) P w K mg base ["actual", "expected", "k"] "_law_same_items" (defScope (top 23)) fa cdv A outer s H E) (WD E)) :
    GSs (cxOf (L2.CX P w) P w K mg base ["actual", "expected", "k"] "_law_same_items" (defScope (top 23)) fa cdv A outer s H E) (WD E) (defBody (top 23)) (b__law_same_items Γ) := by
  have nd : (["actual", "expected", "k"] : List Str).Nodup := s__law_same_items.nd
  have hu : (cxOf (L2.CX P w) P w K mg base ["actual", "expected", "k"] "_law_same_items" (defScope (top 23)) fa cdv A outer s H E).A.units + 200 < cLine := by
    have := hr.un
    show (A.deeper (envOfC "_law_same_items" (defScope (top 23)) s.heap.objs.size fa cdv)).units + 200 < cLine
    omega
  have hu1 : (cxOf (L2.CX P w) P w K mg base ["actual", "expected", "k"] "_law_same_items" (defScope (top 23)) fa cdv A outer s H E).A.units + 1 < cLine := by omega
  exact (gs_cons (gs_if (gt_cmp (og_ne hu) (ge_len (ge_var 0) fc.f_len) (ge_len (ge_var 1) fc.f_len)) (gs_cons (gs_ret ge_bl)
    gs_nil) gs_nil)
    (gs_cons (gs_for hp rfl (gi_range1 (ge_len (ge_var 1) fc.f_len) fc.f_range) (gg_name 2 nd) (gs_cons (gs_if (gt_not (gt_tru (ge_fn (F 12 _ _ rfl) hr tk (gan_cons (ge_ix hu1 (ge_var 0) (ge_var 2)) (gan_cons (ge_ix hu1 (ge_var 1) (ge_var 2)) gan_nil))))) (gs_cons (gs_ret ge_bl)
    gs_nil) gs_nil)
    gs_nil))
    (gs_cons (gs_ret ge_bl)
    gs_nil)))
theorem k__law_same_items {fd : FuncData} (F : AllK P w K mg base sig k Γ) (fc : Fc K mg) (U : FnP K "_law_same_items" 23 fd) : FnOk P w K mg base (L2.CX P w) (k + 1) (He.ga K "_law_same_items") fd ["actual", "expected"] (spG K (d__law_same_items Γ) 2) :=
  fn_G U s__law_same_items (fun args h _ => .inl rfl) fun cdv A outer s H E hr hp tk => w__law_same_items F fc hr hp tk
theorem s__law_same : FnScope ["actual", "expected", "key"] ["actual", "expected"] (defScope (top 24)) := ⟨rfl, rfl, rfl, by decide +kernel, rfl, by decide +kernel, by decide +kernel⟩
theorem w__law_same (F : AllK P w K mg base sig k Γ) (fc : Fc K mg) {fa : Addr} {cdv : Value} {A : Around} {outer : List PySem.Env} {s : Shared} {H : Hp} {E : XK} (hr : Room k (A.deeper (envOfC "_law_same" (defScope (top 24)) s.heap.objs.size fa cdv)))
    (hp : PassesOwn (model P w) (A.deeper (envOfC "_law_same" (defScope (top 24)) s.heap.objs.size fa cdv)) (envOfC "_law_same" (defScope (top 24)) s.heap.objs.size fa cdv) (cxOf (L2.CX P w) P w K mg base ["actual", "expected", "key"] "_law_same" (defScope (top 24)) fa cdv A outer s H E).xe)
    (tk : Takes (cxOf (L2.CX P w) P w K mg base ["actual", "expected", "key"] "_law_same" (defScope (top 24)) fa cdv A outer s H E) (WD E)) :
    GSs (cxOf (L2.CX P w) P w K mg base ["actual", "expected", "key"] "_law_same" (defScope (top 24)) fa cdv A outer s H E) (WD E) (defBody (top 24)) (b__law_same Γ) := by
  have nd : (["actual", "expected", "key"] : List Str).Nodup := s__law_same.nd
  have hu : (cxOf (L2.CX P w) P w K mg base ["actual", "expected", "key"] "_law_same" (defScope (top 24)) fa cdv A outer s H E).A.units + 200 < cLine := by
    have := hr.un
    show (A.deeper (envOfC "_law_same" (defScope (top 24)) s.heap.objs.size fa cdv)).units + 200 < cLine
    omega
  have hu1 : (cxOf (L2.CX P w) P w K mg base ["actual", "expected", "key"] "_law_same" (defScope (top 24)) fa cdv A outer s H E).A.units + 1 < cLine := by omega
  exact (gs_cons (gs_if (gt_cmp og_isN (ge_var 1) ge_non) (gs_cons (gs_ret (ge_cmp og_isN (ge_var 0) ge_non))
    gs_nil) gs_nil)
    (gs_cons (gs_if (gt_tru (ge_isi .bool (ge_var 1) fc.f_isinstance fc.f_bool)) (gs_cons (gs_ret (ge_and (ge_isi .bool (ge_var 0) fc.f_isinstance fc.f_bool) (ge_one (ge_cmp (og_eq hu) (ge_var 0) (ge_var 1)))))
    gs_nil) gs_nil)
    (gs_cons (gs_if (gt_tru (ge_isi .int (ge_var 1) fc.f_isinstance fc.f_int)) (gs_cons (gs_ret (ge_and (ge_fn (F 10 _ _ rfl) hr tk (gan_cons (ge_var 0) gan_nil)) (ge_one (ge_cmp (og_eq hu) (ge_var 0) (ge_var 1)))))
    gs_nil) gs_nil)
    (gs_cons (gs_if (gt_tru (ge_isi .str (ge_var 1) fc.f_isinstance fc.f_str)) (gs_cons (gs_ret (ge_and (ge_isi .str (ge_var 0) fc.f_isinstance fc.f_str) (ge_one (ge_cmp (og_eq hu) (ge_var 0) (ge_var 1)))))
    gs_nil) gs_nil)
    (gs_cons (gs_if (gt_tru (ge_isi .tuple (ge_var 1) fc.f_isinstance fc.f_tuple)) (gs_cons (gs_ret (ge_and (ge_isi .tuple (ge_var 0) fc.f_isinstance fc.f_tuple) (ge_one (ge_fn (F 11 _ _ rfl) hr tk (gan_cons (ge_var 0) (gan_cons (ge_var 1) gan_nil))))))
    gs_nil) gs_nil)
    (gs_cons (gs_if (gt_tru (ge_isi .list (ge_var 1) fc.f_isinstance fc.f_list)) (gs_cons (gs_ret (ge_and (ge_isi .list (ge_var 0) fc.f_isinstance fc.f_list) (ge_one (ge_fn (F 11 _ _ rfl) hr tk (gan_cons (ge_var 0) (gan_cons (ge_var 1) gan_nil))))))
    gs_nil) gs_nil)
    (gs_cons (gs_if (GW.pt (gw_or (gt_not (gt_tru (ge_isi .dict (ge_var 0) fc.f_isinstance fc.f_dict))) (gw_or1 (gt_cmp (og_ne hu) (ge_len (ge_var 0) fc.f_len) (ge_len (ge_var 1) fc.f_len))))) (gs_cons (gs_ret ge_bl)
    gs_nil) gs_nil)
    (gs_cons (gs_for hp rfl (gi_seq (ge_var 1)) (gg_name 2 nd) (gs_cons (gs_if (GW.pt (gw_or (gt_cmp (og_notIn hu) (ge_var 2) (ge_var 0)) (gw_or1 (gt_not (gt_tru (ge_fn (F 12 _ _ rfl) hr tk (gan_cons (ge_ix hu1 (ge_var 0) (ge_var 2)) (gan_cons (ge_ix hu1 (ge_var 1) (ge_var 2)) gan_nil)))))))) (gs_cons (gs_ret ge_bl)
    gs_nil) gs_nil)
    gs_nil))
    (gs_cons (gs_for hp rfl (gi_seq (ge_var 0)) (gg_name 2 nd) (gs_cons (gs_if (gt_tru (ge_isi .bool (ge_var 2) fc.f_isinstance fc.f_bool)) (gs_cons (gs_ret ge_bl)
    gs_nil) gs_nil)
    gs_nil))
    (gs_cons (gs_ret ge_bl)
    gs_nil))))))))))
theorem k__law_same {fd : FuncData} (F : AllK P w K mg base sig k Γ) (fc : Fc K mg) (U : FnP K "_law_same" 24 fd) : FnOk P w K mg base (L2.CX P w) (k + 1) (He.ga K "_law_same") fd ["actual", "expected"] (spG K (d__law_same Γ) 2) :=
  fn_G U s__law_same (fun args h _ => .inl rfl) fun cdv A outer s H E hr hp tk => w__law_same F fc hr hp tk
theorem s__law_kind : FnScope ["tape", "labels"] ["tape"] (defScope (top 25)) := ⟨rfl, rfl, rfl, by decide +kernel, rfl, by decide +kernel, by decide +kernel⟩
theorem w__law_kind (F : AllK P w K mg base sig k Γ) (fc : Fc K mg) {fa : Addr} {cdv : Value} {A : Around} {outer : List PySem.Env} {s : Shared} {H : Hp} {E : XK} (hr : Room k (A.deeper (envOfC "_law_kind" (defScope (top 25)) s.heap.objs.size fa cdv)))
    (hp : PassesOwn (model P w) (A.deeper (envOfC "_law_kind" (defScope (top 25)) s.heap.objs.size fa cdv)) (envOfC "_law_kind" (defScope (top 25)) s.heap.objs.size fa cdv) (cxOf (L2.CX P w) P w K mg base ["tape", "labels"] "_law_kind" (defScope (top 25)) fa cdv A outer s H E).xe)
    (tk : Takes (cxOf (L2.CX P w) P w K mg base ["tape", "labels"] "_law_kind" (defScope (top 25)) fa cdv A outer s H E) (WD E)) :
    GSs (cxOf (L2.CX P w) P w K mg base ["tape", "labels"] "_law_kind" (defScope (top 25)) fa cdv A outer s H E) (WD E) (defBody (top 25)) (b__law_kind Γ) := by
  have nd : (["tape", "labels"] : List Str).Nodup := s__law_kind.nd
  have hu : (cxOf (L2.CX P w) P w K mg base ["tape", "labels"] "_law_kind" (defScope (top 25)) fa cdv A outer s H E).A.units + 200 < cLine := by
    have := hr.un
    show (A.deeper (envOfC "_law_kind" (defScope (top 25)) s.heap.objs.size fa cdv)).units + 200 < cLine
    omega
  have hu1 : (cxOf (L2.CX P w) P w K mg base ["tape", "labels"] "_law_kind" (defScope (top 25)) fa cdv A outer s H E).A.units + 1 < cLine := by omega
  exact (gs_cons (gs_set 1 (ge_ix hu1 (ge_tup (ga_cons (ge_tup (ga_cons (ge_str [97]) ga_nil)) (ga_cons (ge_tup (ga_cons (ge_str [97]) (ga_cons (ge_str [98]) ga_nil))) (ga_cons (ge_tup (ga_cons (ge_str [97]) (ga_cons (ge_str [98]) ga_nil))) (ga_cons (ge_tup (ga_cons (ge_str [98]) (ga_cons (ge_str [100]) (ga_cons (ge_str [122]) ga_nil)))) ga_nil))))) (ge_fn (F 9 _ _ rfl) hr tk (gan_cons (ge_var 0) (gan_cons ge_int gan_nil)))) nd)
    (gs_cons (gs_ret (ge_tup (ga_cons (ge_bin og_add ge_int (ge_bin og_div (ge_fn (F 9 _ _ rfl) hr tk (gan_cons (ge_var 0) (gan_cons ge_int gan_nil))) ge_int)) (ga_cons (ge_var 1) ga_nil))))
    gs_nil))
theorem k__law_kind {fd : FuncData} (F : AllK P w K mg base sig k Γ) (fc : Fc K mg) (U : FnP K "_law_kind" 25 fd) : FnOk P w K mg base (L2.CX P w) (k + 1) (He.ga K "_law_kind") fd ["tape"] (spG K (d__law_kind Γ) 1) :=
  fn_G U s__law_kind (fun args h _ => .inl rfl) fun cdv A outer s H E hr hp tk => w__law_kind F fc hr hp tk
theorem s__law_atom : FnScope ["tape", "kind", "singles", "sets", "choice", "x", "y"] ["tape", "kind", "singles", "sets"] (defScope (top 26)) := ⟨rfl, rfl, rfl, by decide +kernel, rfl, by decide +kernel, by decide +kernel⟩
theorem w__law_atom (F : AllK P w K mg base sig k Γ) (fc : Fc K mg) {fa : Addr} {cdv : Value} {A : Around} {outer : List PySem.Env} {s : Shared} {H : Hp} {E : XK} (hr : Room k (A.deeper (envOfC "_law_atom" (defScope (top 26)) s.heap.objs.size fa cdv)))
    (hp : PassesOwn (model P w) (A.deeper (envOfC "_law_atom" (defScope (top 26)) s.heap.objs.size fa cdv)) (envOfC "_law_atom" (defScope (top 26)) s.heap.objs.size fa cdv) (cxOf (L2.CX P w) P w K mg base ["tape", "kind", "singles", "sets", "choice", "x", "y"] "_law_atom" (defScope (top 26)) fa cdv A outer s H E).xe)
    (tk : Takes (cxOf (L2.CX P w) P w K mg base ["tape", "kind", "singles", "sets", "choice", "x", "y"] "_law_atom" (defScope (top 26)) fa cdv A outer s H E) (WD E)) :
    GSs (cxOf (L2.CX P w) P w K mg base ["tape", "kind", "singles", "sets", "choice", "x", "y"] "_law_atom" (defScope (top 26)) fa cdv A outer s H E) (WD E) (defBody (top 26)) (b__law_atom Γ) := by
  have nd : (["tape", "kind", "singles", "sets", "choice", "x", "y"] : List Str).Nodup := s__law_atom.nd
  have hu : (cxOf (L2.CX P w) P w K mg base ["tape", "kind", "singles", "sets", "choice", "x", "y"] "_law_atom" (defScope (top 26)) fa cdv A outer s H E).A.units + 200 < cLine := by
    have := hr.un
    show (A.deeper (envOfC "_law_atom" (defScope (top 26)) s.heap.objs.size fa cdv)).units + 200 < cLine
    omega
  have hu1 : (cxOf (L2.CX P w) P w K mg base ["tape", "kind", "singles", "sets", "choice", "x", "y"] "_law_atom" (defScope (top 26)) fa cdv A outer s H E).A.units + 1 < cLine := by omega
  exact (gs_cons (gs_set 4 (ge_fn (F 9 _ _ rfl) hr tk (gan_cons (ge_var 0) (gan_cons ge_int gan_nil))) nd)
    (gs_cons (gs_if (GW.pt (gw_and (gt_cmp (og_ne hu) (ge_var 3) (ge_lst ga_nil)) (gw_and1 (GW.pt (gw_or (gt_cmp og_lt (ge_var 4) ge_int) (gw_or1 (gt_cmp (og_eq hu) (ge_var 2) (ge_lst ga_nil)))))))) (gs_cons (gs_if (GW.pt (gw_or (gt_cmp (og_eq hu) (ge_var 2) (ge_lst ga_nil)) (gw_or1 (gt_cmp (og_eq hu) (ge_var 4) ge_int)))) (gs_cons (gs_ret (ge_tup (ga_cons (ge_str [105, 110, 115, 105, 100, 101]) (ga_cons (ge_ix hu1 (ge_var 3) (ge_fn (F 9 _ _ rfl) hr tk (gan_cons (ge_var 0) (gan_cons (ge_len (ge_var 3) fc.f_len) gan_nil)))) (ga_cons (ge_ix hu1 (ge_var 3) (ge_fn (F 9 _ _ rfl) hr tk (gan_cons (ge_var 0) (gan_cons (ge_len (ge_var 3) fc.f_len) gan_nil)))) ga_nil)))))
    gs_nil) gs_nil)
    (gs_cons (gs_ret (ge_tup (ga_cons (ge_str [105, 110]) (ga_cons (ge_ix hu1 (ge_var 2) (ge_fn (F 9 _ _ rfl) hr tk (gan_cons (ge_var 0) (gan_cons (ge_len (ge_var 2) fc.f_len) gan_nil)))) (ga_cons (ge_ix hu1 (ge_var 3) (ge_fn (F 9 _ _ rfl) hr tk (gan_cons (ge_var 0) (gan_cons (ge_len (ge_var 3) fc.f_len) gan_nil)))) ga_nil)))))
    gs_nil)) gs_nil)
    (gs_cons (gs_if (gt_cmp (og_eq hu) (ge_var 2) (ge_lst ga_nil)) (gs_cons (gs_ret (ge_tup (ga_cons (ge_str [116, 114, 117, 101]) ga_nil)))
    gs_nil) gs_nil)
    (gs_cons (gs_set 5 (ge_ix hu1 (ge_var 2) (ge_fn (F 9 _ _ rfl) hr tk (gan_cons (ge_var 0) (gan_cons (ge_len (ge_var 2) fc.f_len) gan_nil)))) nd)
    (gs_cons (gs_set 6 (ge_ix hu1 (ge_var 2) (ge_fn (F 9 _ _ rfl) hr tk (gan_cons (ge_var 0) (gan_cons (ge_len (ge_var 2) fc.f_len) gan_nil)))) nd)
    (gs_cons (gs_if (gt_cmp og_lt (ge_var 4) ge_int) (gs_cons (gs_ret (ge_tup (ga_cons (ge_str [108, 97, 98, 101, 108]) (ga_cons (ge_ix hu1 (ge_ix hu1 (ge_var 1) ge_int) (ge_fn (F 9 _ _ rfl) hr tk (gan_cons (ge_var 0) (gan_cons (ge_len (ge_ix hu1 (ge_var 1) ge_int) fc.f_len) gan_nil)))) (ga_cons (ge_var 5) ga_nil)))))
    gs_nil) gs_nil)
    (gs_cons (gs_if (gt_cmp (og_eq hu) (ge_var 4) ge_int) (gs_cons (gs_ret (ge_tup (ga_cons (ge_str [116, 111, 112]) (ga_cons (ge_var 5) ga_nil))))
    gs_nil) gs_nil)
    (gs_cons (gs_if (gt_cmp (og_eq hu) (ge_var 4) ge_int) (gs_cons (gs_ret (ge_tup (ga_cons (ge_str [115, 97, 109, 101]) (ga_cons (ge_var 5) (ga_cons (ge_var 6) ga_nil)))))
    gs_nil) gs_nil)
    (gs_cons (gs_ret (ge_if (gt_cmp og_lt (ge_var 4) ge_int) (ge_tup (ga_cons (ge_str [99, 104, 105, 108, 100]) (ga_cons (ge_fn (F 9 _ _ rfl) hr tk (gan_cons (ge_var 0) (gan_cons (ge_ix hu1 (ge_var 1) ge_int) gan_nil))) (ga_cons (ge_var 5) (ga_cons (ge_var 6) ga_nil))))) (ge_tup (ga_cons (ge_str [98, 101, 108, 111, 119]) (ga_cons (ge_var 5) (ga_cons (ge_var 6) ga_nil))))))
    gs_nil)))))))))
theorem k__law_atom {fd : FuncData} (F : AllK P w K mg base sig k Γ) (fc : Fc K mg) (U : FnP K "_law_atom" 26 fd) : FnOk P w K mg base (L2.CX P w) (k + 1) (He.ga K "_law_atom") fd ["tape", "kind", "singles", "sets"] (spG K (d__law_atom Γ) 4) :=
  fn_G U s__law_atom (fun args h _ => .inl rfl) fun cdv A outer s H E hr hp tk => w__law_atom F fc hr hp tk
theorem s__law_matrix : FnScope ["tape", "kind", "singles", "sets", "deep", "choice", "word", "name", "left"] ["tape", "kind", "singles", "sets", "deep"] (defScope (top 27)) := ⟨rfl, rfl, rfl, by decide +kernel, rfl, by decide +kernel, by decide +kernel⟩
theorem w__law_matrix (F : AllK P w K mg base sig k Γ) (fc : Fc K mg) {fa : Addr} {cdv : Value} {A : Around} {outer : List PySem.Env} {s : Shared} {H : Hp} {E : XK} (hr : Room k (A.deeper (envOfC "_law_matrix" (defScope (top 27)) s.heap.objs.size fa cdv)))
    (hp : PassesOwn (model P w) (A.deeper (envOfC "_law_matrix" (defScope (top 27)) s.heap.objs.size fa cdv)) (envOfC "_law_matrix" (defScope (top 27)) s.heap.objs.size fa cdv) (cxOf (L2.CX P w) P w K mg base ["tape", "kind", "singles", "sets", "deep", "choice", "word", "name", "left"] "_law_matrix" (defScope (top 27)) fa cdv A outer s H E).xe)
    (tk : Takes (cxOf (L2.CX P w) P w K mg base ["tape", "kind", "singles", "sets", "deep", "choice", "word", "name", "left"] "_law_matrix" (defScope (top 27)) fa cdv A outer s H E) (WD E)) :
    GSs (cxOf (L2.CX P w) P w K mg base ["tape", "kind", "singles", "sets", "deep", "choice", "word", "name", "left"] "_law_matrix" (defScope (top 27)) fa cdv A outer s H E) (WD E) (defBody (top 27)) (b__law_matrix Γ) := by
  have nd : (["tape", "kind", "singles", "sets", "deep", "choice", "word", "name", "left"] : List Str).Nodup := s__law_matrix.nd
  have hu : (cxOf (L2.CX P w) P w K mg base ["tape", "kind", "singles", "sets", "deep", "choice", "word", "name", "left"] "_law_matrix" (defScope (top 27)) fa cdv A outer s H E).A.units + 200 < cLine := by
    have := hr.un
    show (A.deeper (envOfC "_law_matrix" (defScope (top 27)) s.heap.objs.size fa cdv)).units + 200 < cLine
    omega
  have hu1 : (cxOf (L2.CX P w) P w K mg base ["tape", "kind", "singles", "sets", "deep", "choice", "word", "name", "left"] "_law_matrix" (defScope (top 27)) fa cdv A outer s H E).A.units + 1 < cLine := by omega
  exact (gs_cons (gs_set 5 (ge_if (gt_cmp og_gt (ge_var 4) ge_int) (ge_fn (F 9 _ _ rfl) hr tk (gan_cons (ge_var 0) (gan_cons ge_int gan_nil))) ge_int) nd)
    (gs_cons (gs_if (gt_cmp og_lt (ge_var 5) ge_int) (gs_cons (gs_ret (ge_fn (F 14 _ _ rfl) hr tk (gan_cons (ge_var 0) (gan_cons (ge_var 1) (gan_cons (ge_var 2) (gan_cons (ge_var 3) gan_nil))))))
    gs_nil) gs_nil)
    (gs_cons (gs_if (gt_cmp (og_eq hu) (ge_var 5) ge_int) (gs_cons (gs_ret (ge_tup (ga_cons (ge_str [110, 111, 116]) (ga_cons (ge_fn (F 15 _ _ rfl) hr tk (gan_cons (ge_var 0) (gan_cons (ge_var 1) (gan_cons (ge_var 2) (gan_cons (ge_var 3) (gan_cons (ge_bin og_sub (ge_var 4) ge_int) gan_nil)))))) ga_nil))))
    gs_nil) gs_nil)
    (gs_cons (gs_if (gt_cmp og_lt (ge_var 5) ge_int) (gs_cons (gs_set 6 (ge_ix hu1 (ge_lst (ga_cons (ge_str [97, 110, 100]) (ga_cons (ge_str [111, 114]) ga_nil))) (ge_fn (F 9 _ _ rfl) hr tk (gan_cons (ge_var 0) (gan_cons ge_int gan_nil)))) nd)
    (gs_cons (gs_set 8 (ge_fn (F 15 _ _ rfl) hr tk (gan_cons (ge_var 0) (gan_cons (ge_var 1) (gan_cons (ge_var 2) (gan_cons (ge_var 3) (gan_cons (ge_bin og_sub (ge_var 4) ge_int) gan_nil)))))) nd)
    (gs_cons (gs_ret (ge_tup (ga_cons (ge_var 6) (ga_cons (ge_var 8) (ga_cons (ge_fn (F 15 _ _ rfl) hr tk (gan_cons (ge_var 0) (gan_cons (ge_var 1) (gan_cons (ge_var 2) (gan_cons (ge_var 3) (gan_cons (ge_bin og_sub (ge_var 4) ge_int) gan_nil)))))) ga_nil)))))
    gs_nil))) gs_nil)
    (gs_cons (gs_set 6 (ge_ix hu1 (ge_lst (ga_cons (ge_str [115, 111, 109, 101]) (ga_cons (ge_str [97, 108, 108]) ga_nil))) (ge_fn (F 9 _ _ rfl) hr tk (gan_cons (ge_var 0) (gan_cons ge_int gan_nil)))) nd)
    (gs_cons (gs_set 7 (ge_ix hu1 (ge_lst (ga_cons (ge_str [120]) (ga_cons (ge_str [121]) (ga_cons (ge_str [122]) ga_nil)))) (ge_fn (F 9 _ _ rfl) hr tk (gan_cons (ge_var 0) (gan_cons ge_int gan_nil)))) nd)
    (gs_cons (gs_ret (ge_tup (ga_cons (ge_var 6) (ga_cons (ge_var 7) (ga_cons (ge_fn (F 15 _ _ rfl) hr tk (gan_cons (ge_var 0) (gan_cons (ge_var 1) (gan_cons (ge_bin og_add (ge_var 2) (ge_lst (ga_cons (ge_var 7) ga_nil))) (gan_cons (ge_var 3) (gan_cons (ge_bin og_sub (ge_var 4) ge_int) gan_nil)))))) ga_nil)))))
    gs_nil)))))))
theorem k__law_matrix {fd : FuncData} (F : AllK P w K mg base sig k Γ) (fc : Fc K mg) (U : FnP K "_law_matrix" 27 fd) : FnOk P w K mg base (L2.CX P w) (k + 1) (He.ga K "_law_matrix") fd ["tape", "kind", "singles", "sets", "deep"] (spG K (d__law_matrix Γ) 5) :=
  fn_G U s__law_matrix (fun args h _ => .inl rfl) fun cdv A outer s H E hr hp tk => w__law_matrix F fc hr hp tk
theorem s__law_inner : FnScope ["formula", "word"] ["formula"] (defScope (top 28)) := ⟨rfl, rfl, rfl, by decide +kernel, rfl, by decide +kernel, by decide +kernel⟩
theorem w__law_inner (F : AllK P w K mg base sig k Γ) (fc : Fc K mg) {fa : Addr} {cdv : Value} {A : Around} {outer : List PySem.Env} {s : Shared} {H : Hp} {E : XK} (hr : Room k (A.deeper (envOfC "_law_inner" (defScope (top 28)) s.heap.objs.size fa cdv)))
    (hp : PassesOwn (model P w) (A.deeper (envOfC "_law_inner" (defScope (top 28)) s.heap.objs.size fa cdv)) (envOfC "_law_inner" (defScope (top 28)) s.heap.objs.size fa cdv) (cxOf (L2.CX P w) P w K mg base ["formula", "word"] "_law_inner" (defScope (top 28)) fa cdv A outer s H E).xe)
    (tk : Takes (cxOf (L2.CX P w) P w K mg base ["formula", "word"] "_law_inner" (defScope (top 28)) fa cdv A outer s H E) (WD E)) :
    GSs (cxOf (L2.CX P w) P w K mg base ["formula", "word"] "_law_inner" (defScope (top 28)) fa cdv A outer s H E) (WD E) (defBody (top 28)) (b__law_inner Γ) := by
  have nd : (["formula", "word"] : List Str).Nodup := s__law_inner.nd
  have hu : (cxOf (L2.CX P w) P w K mg base ["formula", "word"] "_law_inner" (defScope (top 28)) fa cdv A outer s H E).A.units + 200 < cLine := by
    have := hr.un
    show (A.deeper (envOfC "_law_inner" (defScope (top 28)) s.heap.objs.size fa cdv)).units + 200 < cLine
    omega
  have hu1 : (cxOf (L2.CX P w) P w K mg base ["formula", "word"] "_law_inner" (defScope (top 28)) fa cdv A outer s H E).A.units + 1 < cLine := by omega
  exact (gs_cons (gs_set 1 (ge_ix hu1 (ge_var 0) ge_int) nd)
    (gs_cons (gs_if (gt_cmp (og_eq hu) (ge_var 1) (ge_str [110, 111, 116])) (gs_cons (gs_ret (ge_lst (ga_cons (ge_ix hu1 (ge_var 0) ge_int) ga_nil)))
    gs_nil) gs_nil)
    (gs_cons (gs_if (gt_cmp (og_in hu) (ge_var 1) (ge_lst (ga_cons (ge_str [97, 110, 100]) (ga_cons (ge_str [111, 114]) ga_nil)))) (gs_cons (gs_ret (ge_lst (ga_cons (ge_ix hu1 (ge_var 0) ge_int) (ga_cons (ge_ix hu1 (ge_var 0) ge_int) ga_nil))))
    gs_nil) gs_nil)
    (gs_cons (gs_ret (ge_if (gt_cmp (og_in hu) (ge_var 1) (ge_lst (ga_cons (ge_str [115, 111, 109, 101]) (ga_cons (ge_str [97, 108, 108]) (ga_cons (ge_str [115, 111, 109, 101, 115, 101, 116]) (ga_cons (ge_str [97, 108, 108, 115, 101, 116]) ga_nil)))))) (ge_lst (ga_cons (ge_ix hu1 (ge_var 0) ge_int) ga_nil)) (ge_lst ga_nil)))
    gs_nil))))
theorem k__law_inner {fd : FuncData} (F : AllK P w K mg base sig k Γ) (fc : Fc K mg) (U : FnP K "_law_inner" 28 fd) : FnOk P w K mg base (L2.CX P w) (k + 1) (He.ga K "_law_inner") fd ["formula"] (spG K (d__law_inner Γ) 1) :=
  fn_G U s__law_inner (fun args h _ => .inl rfl) fun cdv A outer s H E hr hp tk => w__law_inner F fc hr hp tk
theorem s__law_free : FnScope ["formula", "inside", "found", "part", "names", "k", "name"] ["formula"] (defScope (top 29)) := ⟨rfl, rfl, rfl, by decide +kernel, rfl, by decide +kernel, by decide +kernel⟩
theorem w__law_free (F : AllK P w K mg base sig k Γ) (fc : Fc K mg) {fa : Addr} {cdv : Value} {A : Around} {outer : List PySem.Env} {s : Shared} {H : Hp} {E : XK} (hr : Room k (A.deeper (envOfC "_law_free" (defScope (top 29)) s.heap.objs.size fa cdv)))
    (hp : PassesOwn (model P w) (A.deeper (envOfC "_law_free" (defScope (top 29)) s.heap.objs.size fa cdv)) (envOfC "_law_free" (defScope (top 29)) s.heap.objs.size fa cdv) (cxOf (L2.CX P w) P w K mg base ["formula", "inside", "found", "part", "names", "k", "name"] "_law_free" (defScope (top 29)) fa cdv A outer s H E).xe)
    (tk : Takes (cxOf (L2.CX P w) P w K mg base ["formula", "inside", "found", "part", "names", "k", "name"] "_law_free" (defScope (top 29)) fa cdv A outer s H E) (WD E)) :
    GSs (cxOf (L2.CX P w) P w K mg base ["formula", "inside", "found", "part", "names", "k", "name"] "_law_free" (defScope (top 29)) fa cdv A outer s H E) (WD E) (defBody (top 29)) (b__law_free Γ) := by
  have nd : (["formula", "inside", "found", "part", "names", "k", "name"] : List Str).Nodup := s__law_free.nd
  have hu : (cxOf (L2.CX P w) P w K mg base ["formula", "inside", "found", "part", "names", "k", "name"] "_law_free" (defScope (top 29)) fa cdv A outer s H E).A.units + 200 < cLine := by
    have := hr.un
    show (A.deeper (envOfC "_law_free" (defScope (top 29)) s.heap.objs.size fa cdv)).units + 200 < cLine
    omega
  have hu1 : (cxOf (L2.CX P w) P w K mg base ["formula", "inside", "found", "part", "names", "k", "name"] "_law_free" (defScope (top 29)) fa cdv A outer s H E).A.units + 1 < cLine := by omega
  exact (gs_cons (gs_set 1 (ge_fn (F 16 _ _ rfl) hr tk (gan_cons (ge_var 0) gan_nil)) nd)
    (gs_cons (gs_set 2 (ge_lst ga_nil) nd)
    (gs_cons (gs_for hp rfl (gi_seq (ge_var 1)) (gg_name 3 nd) (gs_cons (gs_set 2 (ge_bin og_add (ge_var 2) (ge_lc fin_frozen [("name", 6)] rfl nd (gi_seq (ge_fn (F 17 _ _ rfl) hr tk (gan_cons (ge_var 3) gan_nil))) (fun _ _ _ _ _ => (gc_name 6 nd)) (fun _ _ _ _ _ => (gts_one (gt_cmp (og_notIn hu) (ge_var 6) (ge_var 2)))) (fun _ _ _ _ _ => (ge_var 6)))) nd)
    gs_nil))
    (gs_cons (gs_if (gt_cmp (og_eq hu) (ge_var 1) (ge_lst ga_nil)) (gs_cons (gs_set 4 (ge_if (gt_cmp (og_in hu) (ge_ix hu1 (ge_var 0) ge_int) (ge_lst (ga_cons (ge_str [108, 97, 98, 101, 108]) (ga_cons (ge_str [99, 104, 105, 108, 100]) ga_nil)))) (ge_cut (ge_var 0) (go_some ge_int) go_none) (ge_cut (ge_var 0) (go_some ge_int) go_none)) nd)
    (gs_cons (gs_set 2 (ge_lc fin_frozen [("k", 5)] rfl nd (gi_range1 (ge_len (ge_var 4) fc.f_len) fc.f_range) (fun _ _ _ _ _ => (gc_name 5 nd)) (fun _ _ _ _ _ => (gts_one (gt_cmp (og_notIn hu) (ge_ix hu1 (ge_var 4) (ge_var 5)) (ge_cut (ge_var 4) go_none (go_some (ge_var 5)))))) (fun _ _ _ _ _ => (ge_ix hu1 (ge_var 4) (ge_var 5)))) nd)
    gs_nil)) gs_nil)
    (gs_cons (gs_if (gt_cmp (og_in hu) (ge_ix hu1 (ge_var 0) ge_int) (ge_lst (ga_cons (ge_str [115, 111, 109, 101]) (ga_cons (ge_str [97, 108, 108]) (ga_cons (ge_str [115, 111, 109, 101, 115, 101, 116]) (ga_cons (ge_str [97, 108, 108, 115, 101, 116]) ga_nil)))))) (gs_cons (gs_set 2 (ge_lc fin_frozen [("name", 6)] rfl nd (gi_seq (ge_var 2)) (fun _ _ _ _ _ => (gc_name 6 nd)) (fun _ _ _ _ _ => (gts_one (gt_cmp (og_ne hu) (ge_var 6) (ge_ix hu1 (ge_var 0) ge_int)))) (fun _ _ _ _ _ => (ge_var 6))) nd)
    gs_nil) gs_nil)
    (gs_cons (gs_ret (ge_var 2))
    gs_nil))))))
theorem k__law_free {fd : FuncData} (F : AllK P w K mg base sig k Γ) (fc : Fc K mg) (U : FnP K "_law_free" 29 fd) : FnOk P w K mg base (L2.CX P w) (k + 1) (He.ga K "_law_free") fd ["formula"] (spG K (d__law_free Γ) 1) :=
  fn_G U s__law_free (fun args h _ => .inl rfl) fun cdv A outer s H E hr hp tk => w__law_free F fc hr hp tk
theorem s__law_depth : FnScope ["formula", "part"] ["formula"] (defScope (top 30)) := ⟨rfl, rfl, rfl, by decide +kernel, rfl, by decide +kernel, by decide +kernel⟩
theorem w__law_depth (F : AllK P w K mg base sig k Γ) (fc : Fc K mg) {fa : Addr} {cdv : Value} {A : Around} {outer : List PySem.Env} {s : Shared} {H : Hp} {E : XK} (hr : Room k (A.deeper (envOfC "_law_depth" (defScope (top 30)) s.heap.objs.size fa cdv)))
    (hp : PassesOwn (model P w) (A.deeper (envOfC "_law_depth" (defScope (top 30)) s.heap.objs.size fa cdv)) (envOfC "_law_depth" (defScope (top 30)) s.heap.objs.size fa cdv) (cxOf (L2.CX P w) P w K mg base ["formula", "part"] "_law_depth" (defScope (top 30)) fa cdv A outer s H E).xe)
    (tk : Takes (cxOf (L2.CX P w) P w K mg base ["formula", "part"] "_law_depth" (defScope (top 30)) fa cdv A outer s H E) (WD E)) :
    GSs (cxOf (L2.CX P w) P w K mg base ["formula", "part"] "_law_depth" (defScope (top 30)) fa cdv A outer s H E) (WD E) (defBody (top 30)) (b__law_depth Γ) := by
  have nd : (["formula", "part"] : List Str).Nodup := s__law_depth.nd
  have hu : (cxOf (L2.CX P w) P w K mg base ["formula", "part"] "_law_depth" (defScope (top 30)) fa cdv A outer s H E).A.units + 200 < cLine := by
    have := hr.un
    show (A.deeper (envOfC "_law_depth" (defScope (top 30)) s.heap.objs.size fa cdv)).units + 200 < cLine
    omega
  have hu1 : (cxOf (L2.CX P w) P w K mg base ["formula", "part"] "_law_depth" (defScope (top 30)) fa cdv A outer s H E).A.units + 1 < cLine := by omega
  exact (gs_cons (gs_ret (ge_bin og_add ge_int (ge_b1 (c1_max rfl) (ge_bin og_add (ge_lst (ga_cons ge_int ga_nil)) (ge_lc fin_frozen [("part", 1)] rfl nd (gi_seq (ge_fn (F 16 _ _ rfl) hr tk (gan_cons (ge_var 0) gan_nil))) (fun _ _ _ _ _ => (gc_name 1 nd)) (fun _ _ _ _ _ => gts_nil) (fun _ _ _ _ _ => (ge_fn (F 18 _ _ rfl) hr GH.takes0 (gan_cons (ge_var 1) gan_nil))))) fc.f_max)))
    gs_nil)
theorem k__law_depth {fd : FuncData} (F : AllK P w K mg base sig k Γ) (fc : Fc K mg) (U : FnP K "_law_depth" 30 fd) : FnOk P w K mg base (L2.CX P w) (k + 1) (He.ga K "_law_depth") fd ["formula"] (spG K (d__law_depth Γ) 1) :=
  fn_G U s__law_depth (fun args h _ => .inl rfl) fun cdv A outer s H E hr hp tk => w__law_depth F fc hr hp tk
theorem s__law_fits : FnScope ["kind", "formula", "part"] ["kind", "formula"] (defScope (top 31)) := ⟨rfl, rfl, rfl, by decide +kernel, rfl, by decide +kernel, by decide +kernel⟩
theorem w__law_fits (F : AllK P w K mg base sig k Γ) (fc : Fc K mg) {fa : Addr} {cdv : Value} {A : Around} {outer : List PySem.Env} {s : Shared} {H : Hp} {E : XK} (hr : Room k (A.deeper (envOfC "_law_fits" (defScope (top 31)) s.heap.objs.size fa cdv)))
    (hp : PassesOwn (model P w) (A.deeper (envOfC "_law_fits" (defScope (top 31)) s.heap.objs.size fa cdv)) (envOfC "_law_fits" (defScope (top 31)) s.heap.objs.size fa cdv) (cxOf (L2.CX P w) P w K mg base ["kind", "formula", "part"] "_law_fits" (defScope (top 31)) fa cdv A outer s H E).xe)
    (tk : Takes (cxOf (L2.CX P w) P w K mg base ["kind", "formula", "part"] "_law_fits" (defScope (top 31)) fa cdv A outer s H E) (WD E)) :
    GSs (cxOf (L2.CX P w) P w K mg base ["kind", "formula", "part"] "_law_fits" (defScope (top 31)) fa cdv A outer s H E) (WD E) (defBody (top 31)) (b__law_fits Γ) := by
  have nd : (["kind", "formula", "part"] : List Str).Nodup := s__law_fits.nd
  have hu : (cxOf (L2.CX P w) P w K mg base ["kind", "formula", "part"] "_law_fits" (defScope (top 31)) fa cdv A outer s H E).A.units + 200 < cLine := by
    have := hr.un
    show (A.deeper (envOfC "_law_fits" (defScope (top 31)) s.heap.objs.size fa cdv)).units + 200 < cLine
    omega
  have hu1 : (cxOf (L2.CX P w) P w K mg base ["kind", "formula", "part"] "_law_fits" (defScope (top 31)) fa cdv A outer s H E).A.units + 1 < cLine := by omega
  exact (gs_cons (gs_if (GW.pt (gw_or (GW.pt (gw_and (gt_cmp (og_eq hu) (ge_ix hu1 (ge_var 1) ge_int) (ge_str [108, 97, 98, 101, 108])) (gw_and1 (gt_cmp (og_notIn hu) (ge_ix hu1 (ge_var 1) ge_int) (ge_ix hu1 (ge_var 0) ge_int))))) (gw_or1 (GW.pt (gw_and (gt_cmp (og_eq hu) (ge_ix hu1 (ge_var 1) ge_int) (ge_str [99, 104, 105, 108, 100])) (gw_and1 (gt_cmp og_ge (ge_ix hu1 (ge_var 1) ge_int) (ge_ix hu1 (ge_var 0) ge_int)))))))) (gs_cons (gs_ret ge_bl)
    gs_nil) gs_nil)
    (gs_cons (gs_ret (ge_and (ge_cmp og_le (ge_len (ge_fn (F 17 _ _ rfl) hr tk (gan_cons (ge_var 1) gan_nil)) fc.f_len) ge_int) (ge_one (ge_b1 (c1_all rfl) (ge_lc fin_frozen [("part", 2)] rfl nd (gi_seq (ge_fn (F 16 _ _ rfl) hr tk (gan_cons (ge_var 1) gan_nil))) (fun _ _ _ _ _ => (gc_name 2 nd)) (fun _ _ _ _ _ => gts_nil) (fun _ _ _ _ _ => (ge_fn (F 19 _ _ rfl) hr GH.takes0 (gan_cons (ge_var 0) (gan_cons (ge_var 2) gan_nil))))) fc.f_all))))
    gs_nil))
theorem k__law_fits {fd : FuncData} (F : AllK P w K mg base sig k Γ) (fc : Fc K mg) (U : FnP K "_law_fits" 31 fd) : FnOk P w K mg base (L2.CX P w) (k + 1) (He.ga K "_law_fits") fd ["kind", "formula"] (spG K (d__law_fits Γ) 2) :=
  fn_G U s__law_fits (fun args h _ => .inl rfl) fun cdv A outer s H E hr hp tk => w__law_fits F fc hr hp tk
theorem s__law_told : FnScope ["kind", "formula", "closed", "found", "e"] ["kind", "formula", "closed"] (defScope (top 32)) := ⟨rfl, rfl, rfl, by decide +kernel, rfl, by decide +kernel, by decide +kernel⟩
theorem w__law_told (F : AllK P w K mg base sig k Γ) (fc : Fc K mg) {fa : Addr} {cdv : Value} {A : Around} {outer : List PySem.Env} {s : Shared} {H : Hp} {E : XK} (hr : Room k (A.deeper (envOfC "_law_told" (defScope (top 32)) s.heap.objs.size fa cdv)))
    (hp : PassesOwn (model P w) (A.deeper (envOfC "_law_told" (defScope (top 32)) s.heap.objs.size fa cdv)) (envOfC "_law_told" (defScope (top 32)) s.heap.objs.size fa cdv) (cxOf (L2.CX P w) P w K mg base ["kind", "formula", "closed", "found", "e"] "_law_told" (defScope (top 32)) fa cdv A outer s H E).xe)
    (tk : Takes (cxOf (L2.CX P w) P w K mg base ["kind", "formula", "closed", "found", "e"] "_law_told" (defScope (top 32)) fa cdv A outer s H E) (WD E)) :
    GSs (cxOf (L2.CX P w) P w K mg base ["kind", "formula", "closed", "found", "e"] "_law_told" (defScope (top 32)) fa cdv A outer s H E) (WD E) (defBody (top 32)) (b__law_told Γ) := by
  have nd : (["kind", "formula", "closed", "found", "e"] : List Str).Nodup := s__law_told.nd
  have hu : (cxOf (L2.CX P w) P w K mg base ["kind", "formula", "closed", "found", "e"] "_law_told" (defScope (top 32)) fa cdv A outer s H E).A.units + 200 < cLine := by
    have := hr.un
    show (A.deeper (envOfC "_law_told" (defScope (top 32)) s.heap.objs.size fa cdv)).units + 200 < cLine
    omega
  have hu1 : (cxOf (L2.CX P w) P w K mg base ["kind", "formula", "closed", "found", "e"] "_law_told" (defScope (top 32)) fa cdv A outer s H E).A.units + 1 < cLine := by omega
  exact (gs_cons (gs_tryIs (i := 4) (nm := "e") (x := "InvalidSentence") (y := "SayError") [73, 110, 118, 97, 108, 105, 100, 83, 101, 110, 116, 101, 110, 99, 101] true [110, 111] [119, 114, 111, 110, 103] (by rfl) (by rfl) nd (by rfl) (by rfl) ⟨(by rfl), by decide +kernel, .inl fc.e_InvalidSentence.2.2.2.2⟩ tk (fc.m_InvalidSentence ([73, 110, 118, 97, 108, 105, 100, 83, 101, 110, 116, 101, 110, 99, 101], true) (by decide)) fc.x_InvalidSentence.1 fc.x_InvalidSentence.2.1 fc.x_InvalidSentence.2.2 ⟨_, rfl⟩ fc.f_isinstance (by rfl) (by rfl) (fun _ _ _ tk hp => (gs_cons (gs_set 3 (ge_if (gt_tru (ge_var 2)) (ge_fn (F 7 _ _ rfl) hr tk (gan_cons (ge_var 0) (gan_cons (ge_var 1) gan_nil))) (ge_fn (F 6 _ _ rfl) hr tk (gan_cons (ge_var 0) (gan_cons (ge_var 1) gan_nil)))) nd)
    gs_nil)))
    (gs_cons (gs_ret (ge_if (gt_cmp og_isN (ge_var 3) ge_non) (ge_str [121, 101, 115]) (ge_str [119, 114, 111, 110, 103])))
    gs_nil))
theorem k__law_told {fd : FuncData} (F : AllK P w K mg base sig k Γ) (fc : Fc K mg) (U : FnP K "_law_told" 32 fd) : FnOk P w K mg base (L2.CX P w) (k + 1) (He.ga K "_law_told") fd ["kind", "formula", "closed"] (spG K (d__law_told Γ) 3) :=
  fn_G U s__law_told (fun args h _ => .inl rfl) fun cdv A outer s H E hr hp tk => w__law_told F fc hr hp tk
theorem s_law : FnScope ["script", "tape", "kind", "formula", "choice", "right", "closed", "pair", "k"] ["script"] (defScope (top 33)) := ⟨rfl, rfl, rfl, by decide +kernel, rfl, by decide +kernel, by decide +kernel⟩
theorem w_law (F : AllK P w K mg base sig k Γ) (fc : Fc K mg) {fa : Addr} {cdv : Value} {A : Around} {outer : List PySem.Env} {s : Shared} {H : Hp} {E : XK} (hr : Room k (A.deeper (envOfC "law" (defScope (top 33)) s.heap.objs.size fa cdv)))
    (hp : PassesOwn (model P w) (A.deeper (envOfC "law" (defScope (top 33)) s.heap.objs.size fa cdv)) (envOfC "law" (defScope (top 33)) s.heap.objs.size fa cdv) (cxOf (L2.CX P w) P w K mg base ["script", "tape", "kind", "formula", "choice", "right", "closed", "pair", "k"] "law" (defScope (top 33)) fa cdv A outer s H E).xe)
    (tk : Takes (cxOf (L2.CX P w) P w K mg base ["script", "tape", "kind", "formula", "choice", "right", "closed", "pair", "k"] "law" (defScope (top 33)) fa cdv A outer s H E) (WD E)) :
    GSs (cxOf (L2.CX P w) P w K mg base ["script", "tape", "kind", "formula", "choice", "right", "closed", "pair", "k"] "law" (defScope (top 33)) fa cdv A outer s H E) (WD E) (defBody (top 33)) (b_law Γ) := by
  have nd : (["script", "tape", "kind", "formula", "choice", "right", "closed", "pair", "k"] : List Str).Nodup := s_law.nd
  have hu : (cxOf (L2.CX P w) P w K mg base ["script", "tape", "kind", "formula", "choice", "right", "closed", "pair", "k"] "law" (defScope (top 33)) fa cdv A outer s H E).A.units + 200 < cLine := by
    have := hr.un
    show (A.deeper (envOfC "law" (defScope (top 33)) s.heap.objs.size fa cdv)).units + 200 < cLine
    omega
  have hu1 : (cxOf (L2.CX P w) P w K mg base ["script", "tape", "kind", "formula", "choice", "right", "closed", "pair", "k"] "law" (defScope (top 33)) fa cdv A outer s H E).A.units + 1 < cLine := by omega
  exact (gs_cons (gs_set 1 (ge_fn (F 8 _ _ rfl) hr tk (gan_cons (ge_var 0) gan_nil)) nd)
    (gs_cons (gs_set 2 (ge_fn (F 13 _ _ rfl) hr tk (gan_cons (ge_var 1) gan_nil)) nd)
    (gs_cons (gs_set 3 (ge_fn (F 15 _ _ rfl) hr tk (gan_cons (ge_var 1) (gan_cons (ge_var 2) (gan_cons (ge_cut (ge_lst (ga_cons (ge_str [120]) (ga_cons (ge_str [121]) (ga_cons (ge_str [117]) ga_nil)))) go_none (go_some (ge_bin og_add ge_int (ge_fn (F 9 _ _ rfl) hr tk (gan_cons (ge_var 1) (gan_cons ge_int gan_nil)))))) (gan_cons (ge_cut (ge_lst (ga_cons (ge_str [88]) (ga_cons (ge_str [89, 50]) ga_nil))) go_none (go_some (ge_fn (F 9 _ _ rfl) hr tk (gan_cons (ge_var 1) (gan_cons ge_int gan_nil))))) (gan_cons ge_int gan_nil)))))) nd)
    (gs_cons (gs_set 4 (ge_fn (F 9 _ _ rfl) hr tk (gan_cons (ge_var 1) (gan_cons ge_int gan_nil))) nd)
    (gs_cons (gs_if (gt_cmp (og_eq hu) (ge_var 4) ge_int) (gs_cons (gs_set 7 (ge_lstM (ga_cons (ge_tup (ga_cons (ge_str [108, 97, 98, 101, 108]) (ga_cons (ge_str [113]) (ga_cons (ge_str [120]) ga_nil)))) (ga_cons (ge_var 3) ga_nil))) nd)
    (gs_cons (gs_if (gt_cmp (og_eq hu) (ge_fn (F 9 _ _ rfl) hr tk (gan_cons (ge_var 1) (gan_cons ge_int gan_nil))) ge_int) (gs_cons (gs_expr (ge_reverse (ge_var 7)))
    gs_nil) gs_nil)
    (gs_cons (gs_set 3 (ge_tup (ga_cons (ge_ix hu1 (ge_lst (ga_cons (ge_str [97, 110, 100]) (ga_cons (ge_str [111, 114]) ga_nil))) (ge_fn (F 9 _ _ rfl) hr tk (gan_cons (ge_var 1) (gan_cons ge_int gan_nil)))) (ga_cons (ge_ix hu1 (ge_var 7) ge_int) (ga_cons (ge_ix hu1 (ge_var 7) ge_int) ga_nil)))) nd)
    gs_nil))) gs_nil)
    (gs_cons (gs_if (gt_cmp (og_eq hu) (ge_var 4) ge_int) (gs_cons (gs_set 3 (ge_tup (ga_cons (ge_str [115, 111, 109, 101]) (ga_cons (ge_str [121]) (ga_cons (ge_tup (ga_cons (ge_str [99, 104, 105, 108, 100]) (ga_cons ge_int (ga_cons (ge_str [121]) (ga_cons (ge_str [120]) ga_nil))))) ga_nil)))) nd)
    (gs_cons (gs_if (gt_cmp (og_eq hu) (ge_fn (F 9 _ _ rfl) hr tk (gan_cons (ge_var 1) (gan_cons ge_int gan_nil))) ge_int) (gs_cons (gs_set 3 (ge_tup (ga_cons (ge_str [111, 114]) (ga_cons (ge_tup (ga_cons (ge_str [110, 111, 116]) (ga_cons (ge_tup (ga_cons (ge_str [116, 111, 112]) (ga_cons (ge_str [120]) ga_nil))) ga_nil))) (ga_cons (ge_tup (ga_cons (ge_str [97, 110, 100]) (ga_cons (ge_tup (ga_cons (ge_str [116, 114, 117, 101]) ga_nil)) (ga_cons (ge_var 3) ga_nil)))) ga_nil)))) nd)
    gs_nil) gs_nil)
    gs_nil)) gs_nil)
    (gs_cons (gs_if (gt_cmp (og_eq hu) (ge_var 4) ge_int) (gs_cons (gs_for hp rfl (gi_range1 (ge_bin og_add ge_int (ge_fn (F 9 _ _ rfl) hr tk (gan_cons (ge_var 1) (gan_cons ge_int gan_nil)))) fc.f_range) (gg_name 8 nd) (gs_cons (gs_set 3 (ge_tup (ga_cons (ge_str [97, 110, 100]) (ga_cons (ge_var 3) (ga_cons (ge_tup (ga_cons (ge_str [116, 111, 112]) (ga_cons (ge_bin og_add (ge_str [118]) (ge_t1 c1_str (ge_var 8) fc.f_str)) ga_nil))) ga_nil)))) nd)
    gs_nil))
    (gs_cons (gs_set 3 (ge_tup (ga_cons (ge_str [115, 111, 109, 101]) (ga_cons (ge_str [118, 48]) (ga_cons (ge_var 3) ga_nil)))) nd)
    gs_nil)) gs_nil)
    (gs_cons (gs_if (gt_cmp (og_eq hu) (ge_var 4) ge_int) (gs_cons (gs_for hp rfl (gi_range1 (ge_bin og_add ge_int (ge_fn (F 9 _ _ rfl) hr tk (gan_cons (ge_var 1) (gan_cons ge_int gan_nil)))) fc.f_range) (gg_name 8 nd) (gs_cons (gs_set 3 (ge_tup (ga_cons (ge_str [110, 111, 116]) (ga_cons (ge_var 3) ga_nil))) nd)
    gs_nil))
    gs_nil) gs_nil)
    (gs_cons (gs_if (gt_not (gt_tru (ge_fn (F 12 _ _ rfl) hr tk (gan_cons (ge_lst (ga_cons (ge_fn (F 3 _ _ rfl) hr tk (gan_cons (ge_var 3) gan_nil)) (ga_cons (ge_fn (F 4 _ _ rfl) hr tk (gan_cons (ge_var 3) gan_nil)) ga_nil))) (gan_cons (ge_lst (ga_cons (ge_b1 (c1_sorted hu) (ge_fn (F 17 _ _ rfl) hr tk (gan_cons (ge_var 3) gan_nil)) fc.f_sorted) (ga_cons (ge_fn (F 18 _ _ rfl) hr tk (gan_cons (ge_var 3) gan_nil)) ga_nil))) gan_nil))))) (gs_cons (gs_ret ge_bl)
    gs_nil) gs_nil)
    (gs_cons (gs_set 5 (ge_and (ge_fn (F 19 _ _ rfl) hr tk (gan_cons (ge_var 2) (gan_cons (ge_var 3) gan_nil))) (ge_one (ge_cmp og_le (ge_fn (F 18 _ _ rfl) hr tk (gan_cons (ge_var 3) gan_nil)) ge_int))) nd)
    (gs_cons (gs_set 6 (ge_and (ge_var 5) (ge_one (ge_cmp (og_eq hu) (ge_fn (F 17 _ _ rfl) hr tk (gan_cons (ge_var 3) gan_nil)) (ge_lst ga_nil)))) nd)
    (gs_cons (gs_if (gt_cmp (og_ne hu) (ge_fn (F 20 _ _ rfl) hr tk (gan_cons (ge_var 2) (gan_cons (ge_var 3) (gan_cons ge_bl gan_nil)))) (ge_if (gt_tru (ge_var 5)) (ge_str [121, 101, 115]) (ge_str [110, 111]))) (gs_cons (gs_ret ge_bl)
    gs_nil) gs_nil)
    (gs_cons (gs_ret (ge_cmp (og_eq hu) (ge_fn (F 20 _ _ rfl) hr tk (gan_cons (ge_var 2) (gan_cons (ge_var 3) (gan_cons ge_bl gan_nil)))) (ge_if (gt_tru (ge_var 6)) (ge_str [121, 101, 115]) (ge_str [110, 111]))))
    gs_nil)))))))))))))
theorem k_law {fd : FuncData} (F : AllK P w K mg base sig k Γ) (fc : Fc K mg) (U : FnP K "law" 33 fd) : FnOk P w K mg base (L2.CX P w) (k + 1) (He.ga K "law") fd ["script"] (spG K (d_law Γ) 1) :=
  fn_G U s_law (fun args h _ => .inl rfl) fun cdv A outer s H E hr hp tk => w_law F fc hr hp tk
end
end L03
set_option Elab.async false
set_option linter.all false
set_option maxRecDepth 100000
set_option maxHeartbeats 1000000
set_option autoImplicit false
namespace L03
open GH PySem
theorem take_l {k : Nat} {m : Int} {o : Ob} {g : Hv} {P : Val → Hv → Prop} (ho : TapeOb o) (hm : 0 < m) (hm2 : m < 1073741824)
    (kk : ∀ r o', 0 ≤ r → r < m → TapeOb o' → P (.int r) (o' :: g)) : ok (lev D (k + 1) 9 [.ref 0, .int m] (o :: g)) P := take_sp hm hm2 ho kk
theorem lv {K K' j : Nat} {a : List Val} {h : Hv} {P : Val → Hv → Prop} (e : K = K') (z : ok (lev D K' j a h) P) : ok (lev D K j a h) P := by subst e; exact z
/-! what is the same -/
def Pl : Nat → Val → Prop
  | _, .bl _ => True
  | _, .int _ => True
  | _, .str _ => True
  | d + 1, .tup l => l.length ≤ 16777216 ∧ ∀ v ∈ l, Pl d v
  | d + 1, .lst l => l.length ≤ 16777216 ∧ ∀ v ∈ l, Pl d v
  | _, _ => False
theorem same_items {k : Nat} {v : Val} {l : List Val} {h : Hv} {P : Val → Hv → Prop} (hv : vLen v h = .ok (.int l.length) h) (hx : ∀ (j : Nat) u, l[j]? = some u → vIx v (.int j) h = .ok u h) (hl : l.length ≤ 16777216)
    (ih : ∀ u ∈ l, ∀ (P : Val → Hv → Prop), P (.bl true) h → ok (lev D k 12 [u, u] h) P) (z : P (.bl true) h) : ok (lev D (k + 1) 11 [v, v] h) P := by
  show ok (runDef 3 (b__law_same_items (lev D k)) [v, v] h) P
  rw [ok_run]
  refine if_ (c := false) (h := h) (by simp [dVar, hv]) (fun z => by cases z) fun _ => ?_
  refine sok_seqo (fun l' h' => (∃ x, l' = [some v, some v, x]) ∧ h' = h) ?_ ?_
  · intro R' hR
    simp only [e_for, e_rng1, e_len, dVar, List.map_cons, List.map_nil, List.cons_append, List.nil_append, List.getElem?_cons_succ, List.getElem?_cons_zero, Res.bind_ok, hv, rng_ok hl, Res.to_ok]
    refine forL_invo (fun items l' h' => (∀ x ∈ items, ∃ j : Nat, j < l.length ∧ x = .int j) ∧ (∃ x, l' = [some v, some v, x]) ∧ h' = h) ?_ ?_ _ _ _ ?_
    · intro I' hI x r l' h' ⟨hit, ⟨y, hl'⟩, eh⟩
      subst hl' eh
      obtain ⟨j, hj, rfl⟩ := hit x (List.mem_cons_self ..)
      refine ⟨trivial, ?_⟩
      have hu : l[j]? = some l[j] := List.getElem?_eq_getElem hj
      simp only [e_name, tok_ok, List.set_cons_succ, List.set_cons_zero]
      refine ifk_ ?_
      simp [dVar, hx j _ hu]
      refine ih _ (List.getElem_mem hj) _ ?_
      simp
      exact hI _ _ _ ⟨fun x hx => hit x (List.mem_cons_of_mem _ hx), ⟨_, rfl⟩, rfl⟩
    · intro l' h' ⟨_, ⟨y, hl'⟩, eh⟩
      subst hl' eh
      exact ⟨trivial, hR _ _ ⟨⟨_, rfl⟩, rfl⟩⟩
    · refine ⟨fun x hx => ?_, ⟨none, rfl⟩, rfl⟩
      obtain ⟨j, hj, rfl⟩ := rng_mem hx
      exact ⟨j, hj, rfl⟩
  · rintro l' h' ⟨⟨x, rfl⟩, rfl⟩
    exact ret_ (by simpa using z)
theorem same_refl : ∀ (d : Nat) (v : Val), Pl d v → ∀ {k : Nat} {h : Hv} {P : Val → Hv → Prop}, P (.bl true) h → ok (lev D (k + 2 * d + 2) 12 [v, v] h) P := by
  intro d
  induction d with
  | zero =>
    intro v hv k h P z
    show ok (runDef 3 (b__law_same (lev D (k + 1))) [v, v] h) P
    rw [ok_run]
    cases v with
    | bl b => exact if_ (c := false) (h := h) (by simp [dVar, vIsN, isNon]) (fun z => by cases z) fun _ => if_ (c := true) (h := h) (by simp [dVar, tyOf, isiB]) (fun _ => ret_ (by simp [dVar, tyOf, isiB]; exact z)) (fun z => by cases z)
    | int i =>
      refine if_ (c := false) (h := h) (by simp [dVar, vIsN, isNon]) (fun z => by cases z) fun _ => if_ (c := false) (h := h) (by simp [dVar, tyOf, isiB]) (fun z => by cases z) fun _ => if_ (c := true) (h := h) (by simp [dVar, tyOf, isiB]) (fun _ => ret_ ?_) (fun z => by cases z)
      simp only [e_andv, e_call, e_cons, e_nil, dVar, List.map_cons, List.map_nil, List.cons_append, List.nil_append, List.getElem?_cons_succ, List.getElem?_cons_zero, Res.bind_ok, ok_bind]
      show ok (runDef 1 (b__law_is_integer (lev D k)) [.int i] h) _
      rw [ok_run]
      refine ret_ ?_
      simp [dVar, tyOf, isiB]
      exact z
    | str s => exact if_ (c := false) (h := h) (by simp [dVar, vIsN, isNon]) (fun z => by cases z) fun _ => if_ (c := false) (h := h) (by simp [dVar, tyOf, isiB]) (fun z => by cases z) fun _ => if_ (c := false) (h := h) (by simp [dVar, tyOf, isiB]) (fun z => by cases z) fun _ => if_ (c := true) (h := h) (by simp [dVar, tyOf, isiB]) (fun _ => ret_ (by simp [dVar, tyOf, isiB]; exact z)) (fun z => by cases z)
    | _ => cases hv
  | succ d ih =>
    intro v hv k h P z
    have lo : ∀ w, Pl 0 w → ok (lev D (k + 2 * (d + 1) + 2) 12 [w, w] h) P → ok (lev D (k + 2 * (d + 1) + 2) 12 [w, w] h) P := fun _ _ q => q
    show ok (runDef 3 (b__law_same (lev D (k + 2 * (d + 1) + 1))) [v, v] h) P
    rw [ok_run]
    cases v with
    | bl b => exact if_ (c := false) (h := h) (by simp [dVar, vIsN, isNon]) (fun z => by cases z) fun _ => if_ (c := true) (h := h) (by simp [dVar, tyOf, isiB]) (fun _ => ret_ (by simp [dVar, tyOf, isiB]; exact z)) (fun z => by cases z)
    | int i =>
      refine if_ (c := false) (h := h) (by simp [dVar, vIsN, isNon]) (fun z => by cases z) fun _ => if_ (c := false) (h := h) (by simp [dVar, tyOf, isiB]) (fun z => by cases z) fun _ => if_ (c := true) (h := h) (by simp [dVar, tyOf, isiB]) (fun _ => ret_ ?_) (fun z => by cases z)
      simp only [e_andv, e_call, e_cons, e_nil, dVar, List.map_cons, List.map_nil, List.cons_append, List.nil_append, List.getElem?_cons_succ, List.getElem?_cons_zero, Res.bind_ok, ok_bind]
      show ok (runDef 1 (b__law_is_integer (lev D (k + 2 * (d + 1)))) [.int i] h) _
      rw [ok_run]
      refine ret_ ?_
      simp [dVar, tyOf, isiB]
      exact z
    | str s => exact if_ (c := false) (h := h) (by simp [dVar, vIsN, isNon]) (fun z => by cases z) fun _ => if_ (c := false) (h := h) (by simp [dVar, tyOf, isiB]) (fun z => by cases z) fun _ => if_ (c := false) (h := h) (by simp [dVar, tyOf, isiB]) (fun z => by cases z) fun _ => if_ (c := true) (h := h) (by simp [dVar, tyOf, isiB]) (fun _ => ret_ (by simp [dVar, tyOf, isiB]; exact z)) (fun z => by cases z)
    | tup l =>
      refine if_ (c := false) (h := h) (by simp [dVar, vIsN, isNon]) (fun z => by cases z) fun _ => if_ (c := false) (h := h) (by simp [dVar, tyOf, isiB]) (fun z => by cases z) fun _ => if_ (c := false) (h := h) (by simp [dVar, tyOf, isiB]) (fun z => by cases z) fun _ => if_ (c := false) (h := h) (by simp [dVar, tyOf, isiB]) (fun z => by cases z) fun _ => if_ (c := true) (h := h) (by simp [dVar, tyOf, isiB]) (fun _ => ret_ ?_) (fun z => by cases z)
      simp [dVar, tyOf, isiB]
      refine lv (show k + 2 * (d + 1) + 1 = (k + 2 * d + 2) + 1 by omega) ?_
      exact same_items (l := l) (by simp) (fun j u e => vIx_tup (nth_nat e)) hv.1 (fun u hu P z => ih u (hv.2 u hu) z) z
    | lst l =>
      refine if_ (c := false) (h := h) (by simp [dVar, vIsN, isNon]) (fun z => by cases z) fun _ => if_ (c := false) (h := h) (by simp [dVar, tyOf, isiB]) (fun z => by cases z) fun _ => if_ (c := false) (h := h) (by simp [dVar, tyOf, isiB]) (fun z => by cases z) fun _ => if_ (c := false) (h := h) (by simp [dVar, tyOf, isiB]) (fun z => by cases z) fun _ => if_ (c := false) (h := h) (by simp [dVar, tyOf, isiB]) (fun z => by cases z) fun _ => if_ (c := true) (h := h) (by simp [dVar, tyOf, isiB]) (fun _ => ret_ ?_) (fun z => by cases z)
      simp [dVar, tyOf, isiB]
      refine lv (show k + 2 * (d + 1) + 1 = (k + 2 * d + 2) + 1 by omega) ?_
      exact same_items (l := l) (by simp) (fun j u e => vIx_lst (nth_nat e)) hv.1 (fun u hu P z => ih u (hv.2 u hu) z) z
    | _ => cases hv
end L03
set_option Elab.async false
set_option linter.all false
set_option maxRecDepth 100000
set_option maxHeartbeats 1000000
set_option autoImplicit false
namespace L03
open GH PySem
def tLabel : Tx := [108, 97, 98, 101, 108]
def tChild : Tx := [99, 104, 105, 108, 100]
def tTrue : Tx := [116, 114, 117, 101]
def tNot : Tx := [110, 111, 116]
def tBin (b : Bool) : Tx := if b then [97, 110, 100] else [111, 114]
def tQ (b : Bool) : Tx := if b then [115, 111, 109, 101] else [97, 108, 108]
def W6 : List Tx := [[98, 101, 108, 111, 119], [115, 97, 109, 101], [116, 111, 112], [105, 110], [105, 110, 115, 105, 100, 101], [116, 114, 117, 101]]
def ATOMS : List Tx := [[108, 97, 98, 101, 108], [99, 104, 105, 108, 100], [98, 101, 108, 111, 119], [115, 97, 109, 101], [116, 111, 112], [105, 110], [105, 110, 115, 105, 100, 101], [116, 114, 117, 101]]
def QS : List Tx := [[115, 111, 109, 101], [97, 108, 108], [115, 111, 109, 101, 115, 101, 116], [97, 108, 108, 115, 101, 116]]
/-- all names -/
def U : List Tx := [[120], [121], [117], [122], [88], [89, 50], [118, 48], [118, 49], [118, 50], [118, 51], [118, 52], [118, 53], [118, 54], [118, 55]]
inductive Fm where
  | lab (a x : Tx) | chi (i : Int) (x y : Tx) | at (w : Tx) (ns : List Tx) | not (f : Fm) | bin (b : Bool) (f g : Fm) | q (b : Bool) (x : Tx) (f : Fm)
def Fm.val : Fm → Val
  | .lab a x => .tup [.str tLabel, .str a, .str x]
  | .chi i x y => .tup [.str tChild, .int i, .str x, .str y]
  | .at w ns => .tup (.str w :: ns.map .str)
  | .not f => .tup [.str tNot, f.val]
  | .bin b f g => .tup [.str (tBin b), f.val, g.val]
  | .q b x f => .tup [.str (tQ b), .str x, f.val]
def Fm.word : Fm → Tx
  | .lab _ _ => tLabel
  | .chi _ _ _ => tChild
  | .at w _ => w
  | .not _ => tNot
  | .bin b _ _ => tBin b
  | .q b _ _ => tQ b
def Fm.good : Fm → Prop
  | .lab a x => okV (.str a) = true ∧ x ∈ U
  | .chi _ x y => x ∈ U ∧ y ∈ U
  | .at w ns => w ∈ W6 ∧ ns.length ≤ 2 ∧ (w = tTrue → ns = []) ∧ ∀ x ∈ ns, x ∈ U
  | .not f => f.good
  | .bin _ f g => f.good ∧ g.good
  | .q _ x f => x ∈ U ∧ f.good
def Fm.subs : Fm → List Fm
  | .not f => [f]
  | .bin _ f g => [f, g]
  | .q _ _ f => [f]
  | _ => []
def Fm.ht : Fm → Nat
  | .not f => f.ht + 1
  | .bin _ f g => max f.ht g.ht + 1
  | .q _ _ f => f.ht + 1
  | _ => 0
theorem U_ok : TxOk U := by decide +kernel
theorem W6_ok : TxOk W6 := by decide +kernel
theorem A_ok : TxOk ATOMS := by decide +kernel
theorem Q_ok : TxOk QS := by decide +kernel
theorem W6_at : ∀ w ∈ W6, w ∈ ATOMS := by decide +kernel
theorem W6_q : ∀ w ∈ W6, w ∉ QS := by decide +kernel
theorem W6_ne : ∀ w ∈ W6, w ≠ tLabel ∧ w ≠ tChild ∧ w ≠ tNot ∧ w ∉ [[97, 110, 100], [111, 114]] ∧ w ∉ [tLabel, tChild] := by decide +kernel
theorem word_ok {f : Fm} (g : f.good) : okV (.str f.word) = true := by
  cases f with
  | «at» w ns => exact W6_ok w g.1
  | bin b _ _ => cases b <;> rfl
  | q b _ _ => cases b <;> rfl
  | _ => rfl
theorem word_ix {f : Fm} (h : Hv) : vIx f.val (.int 0) h = .ok (.str f.word) h := by
  cases f <;> exact t0 _ _ _
theorem sub_good {f p : Fm} (g : f.good) (m : p ∈ f.subs) : p.good ∧ p.ht < f.ht := by
  cases f with
  | not f => rw [List.mem_singleton.mp m]; exact ⟨g, by simp [Fm.ht]⟩
  | q b x f => rw [List.mem_singleton.mp m]; exact ⟨g.2, by simp [Fm.ht]⟩
  | bin b f f' =>
    simp only [Fm.subs, List.mem_cons, List.not_mem_nil, or_false] at m
    rcases m with rfl | rfl
    · exact ⟨g.1, by simp [Fm.ht]; omega⟩
    · exact ⟨g.2, by simp [Fm.ht]; omega⟩
  | _ => cases m
abbrev gv (L : List Fm) : Val := .lst (L.map Fm.val)
/-- atoms have words of their own -/
theorem at_atom {f : Fm} (g : f.good) : decide (f.word ∈ ATOMS) = f.subs.isEmpty := by
  cases f with
  | «at» w ns => exact decide_eq_true (W6_at w g.1)
  | bin b _ _ => cases b <;> rfl
  | q b _ _ => cases b <;> rfl
  | _ => rfl
def Fm.isQ : Fm → Bool
  | .q _ _ _ => true
  | _ => false
theorem at_q {f : Fm} (g : f.good) : decide (f.word ∈ QS) = f.isQ := by
  cases f with
  | «at» w ns => exact decide_eq_false (W6_q w g.1)
  | bin b _ _ => cases b <;> rfl
  | q b _ _ => cases b <;> rfl
  | _ => rfl
theorem inner_a {f : Fm} (g : f.good) {k : Nat} {h : Hv} : lev D (k + 1) 2 [f.val] h = .ok (gv f.subs) h := by
  refine eq_of ?_
  show ok (runDef 2 (b_inner (lev D k)) [f.val] h) _
  rw [ok_run]
  refine asg_ (h1 := h) (v := .str f.word) (by simp [dVar, word_ix]) ?_
  refine if_ (inT ATOMS rfl (word_ok g) A_ok (at_atom g)) (fun e => ret_ ?_) fun e => ?_
  · have : f.subs = [] := by simpa using e
    rw [this]
    simp [mkL_ok, gv]
  cases f with
  | not f => exact hit_ rfl (by simp [dVar, Fm.val, mkL_ok, Fm.subs])
  | bin b f f' =>
    refine skip_ rfl (by cases b <;> first | rfl | (simp only [Fm.word]; decide)) ?_
    refine if_ (inT QS rfl (word_ok g) Q_ok (at_q g)) (fun e => by cases e) fun e => ret_ ?_
    simp [dVar, Fm.val, mkL_ok, Fm.subs]
  | q b x f =>
    refine skip_ rfl (by cases b <;> first | rfl | (simp only [Fm.word]; decide)) ?_
    refine if_ (inT QS rfl (word_ok g) Q_ok (at_q g)) (fun e => ret_ ?_) fun e => by cases e
    simp [dVar, Fm.val, mkL_ok, Fm.subs]
  | _ => cases e
theorem inner_b {f : Fm} (g : f.good) {k : Nat} {h : Hv} : lev D (k + 1) 16 [f.val] h = .ok (gv f.subs) h := by
  refine eq_of ?_
  show ok (runDef 2 (b__law_inner (lev D k)) [f.val] h) _
  rw [ok_run]
  refine asg_ (h1 := h) (v := .str f.word) (by simp [dVar, word_ix]) ?_
  cases f with
  | not f => exact hit_ rfl (by simp [dVar, Fm.val, mkL_ok, Fm.subs])
  | bin b f f' =>
    refine skip_ rfl (by cases b <;> first | rfl | (simp only [Fm.word]; decide)) ?_
    refine if_ (inLd (c := true) [[97, 110, 100], [111, 114]] rfl (by decide) (word_ok g) (by decide +kernel) (by cases b <;> first | rfl | (simp only [Fm.word]; decide))) (fun e => ret_ ?_) fun e => by cases e
    simp [dVar, Fm.val, mkL_ok, Fm.subs]
  | q b x f =>
    refine skip_ rfl (by cases b <;> first | rfl | (simp only [Fm.word]; decide)) ?_
    refine if_ (inLd (c := false) [[97, 110, 100], [111, 114]] rfl (by decide) (word_ok g) (by decide +kernel) (by cases b <;> first | rfl | (simp only [Fm.word]; decide))) (fun e => by cases e) fun e => ret_ ?_
    exact dif_ (inLd (c := true) QS rfl (by decide) (word_ok g) Q_ok (at_q g)) (fun _ => by simp [dVar, Fm.val, mkL_ok, Fm.subs]) (fun z => by cases z)
  | «at» w ns =>
    have n := W6_ne w g.1
    refine skip_ rfl n.2.2.1 ?_
    refine if_ (inLd (c := false) [[97, 110, 100], [111, 114]] rfl (by decide) (word_ok g) (by decide +kernel) (decide_eq_false n.2.2.2.1)) (fun e => by cases e) fun e => ret_ ?_
    exact dif_ (inLd (c := false) QS rfl (by decide) (word_ok g) Q_ok (at_q g)) (fun z => by cases z) (fun _ => by simp [mkL_ok, Fm.subs])
  | lab a x =>
    refine skip_ rfl (by first | rfl | (simp only [Fm.word]; decide)) ?_
    refine if_ (inLd (c := false) [[97, 110, 100], [111, 114]] rfl (by decide) (word_ok g) (by decide +kernel) (by first | rfl | (simp only [Fm.word]; decide))) (fun e => by cases e) fun e => ret_ ?_
    exact dif_ (inLd (c := false) QS rfl (by decide) (word_ok g) Q_ok (at_q g)) (fun z => by cases z) (fun _ => by simp [mkL_ok, Fm.subs])
  | chi i x y =>
    refine skip_ rfl (by first | rfl | (simp only [Fm.word]; decide)) ?_
    refine if_ (inLd (c := false) [[97, 110, 100], [111, 114]] rfl (by decide) (word_ok g) (by decide +kernel) (by first | rfl | (simp only [Fm.word]; decide))) (fun e => by cases e) fun e => ret_ ?_
    exact dif_ (inLd (c := false) QS rfl (by decide) (word_ok g) Q_ok (at_q g)) (fun z => by cases z) (fun _ => by simp [mkL_ok, Fm.subs])
/-! depth -/
def mx : List Nat → Nat
  | [] => 0
  | a :: l => max a (mx l)
def Fm.dep : Fm → Nat
  | .not f => 1 + max f.dep 0
  | .bin _ f g => 1 + max f.dep (max g.dep 0)
  | .q _ _ f => 1 + max f.dep 0
  | _ => 1
theorem dep_subs (f : Fm) : f.dep = 1 + mx (f.subs.map Fm.dep) := by cases f <;> rfl
theorem dep_ht (f : Fm) : f.dep = f.ht + 1 := by
  induction f with
  | not f ih => simp [Fm.dep, Fm.ht, ih]; omega
  | bin b f g i1 i2 => simp [Fm.dep, Fm.ht, i1, i2]; omega
  | q b x f ih => simp [Fm.dep, Fm.ht, ih]; omega
  | _ => rfl
theorem max_mx (l : List Nat) : ((0 : Int) :: l.map fun n : Nat => (n : Int)).max? = some (mx l : Nat) := by
  have gen : ∀ (l : List Nat) (a : Nat), (l.map fun n : Nat => (n : Int)).foldl max (a : Int) = ((max a (mx l) : Nat) : Int) := by
    intro l
    induction l with
    | nil => intro a; simp [mx]
    | cons b l ih =>
      intro a
      have e : max (a : Int) (b : Int) = ((max a b : Nat) : Int) := by omega
      simp only [List.map_cons, List.foldl_cons, mx, e, ih]
      congr 1
      omega
  simp only [List.max?_cons']
  rw [show (0 : Int) = ((0 : Nat) : Int) from rfl, gen]
  simp
theorem dep_gen {Γ : Gam} {f : Fm} (i j : Nat) {h : Hv} (hs : ∀ p ∈ f.subs, Γ i [p.val] h = .ok (.int p.dep) h) (hj : Γ j [f.val] h = .ok (gv f.subs) h) :
    ok (runDef 2 (sSeq (sRet (dBin vAdd (dC (.int 1)) (dFn vMax (dBin vAdd (dLst (dCons (dC (.int 0)) dNil)) (dLc frozen [1] (iSeq (dCall (Γ j) (dCons (dVar 0) dNil))) (gName 1) dYes (dCall (Γ i) (dCons (dVar 1) dNil))))))) sNext) [f.val] h) fun v h' => v = .int f.dep ∧ h' = h := by
  rw [ok_run]
  refine ret_ ?_
  simp [dVar, hj, mkL_ok]
  rw [lcL_mapL Fm.val (fun p => .int p.dep) (srcOk_none _ _) f.subs [] fun p hp => ⟨_, rfl, by simp [wipeL, dVar, hs p hp]⟩]
  have hl : f.subs.length ≤ 2 := by cases f <;> simp [Fm.subs]
  simp only [List.nil_append, ok_ok]
  rw [add_lst (by simp; omega)]
  have e : [Val.int 0] ++ f.subs.map (fun p => Val.int p.dep) = ((0 : Int) :: (f.subs.map Fm.dep).map fun n : Nat => (n : Int)).map .int := by simp
  rw [e]
  simp only [ok_ok]
  rw [vMax_ints (max_mx _)]
  simp [dep_subs f]
theorem dep_a : ∀ (n : Nat) {f : Fm}, f.ht ≤ n → f.good → ∀ {k : Nat} {h : Hv}, lev D (k + n + 2) 4 [f.val] h = .ok (.int f.dep) h := by
  intro n
  induction n with
  | zero =>
    intro f hf g k h
    exact eq_of (dep_gen (Γ := lev D (k + 0 + 1)) 4 2 (fun p hp => absurd (sub_good g hp).2 (by omega)) (inner_a g))
  | succ n ih =>
    intro f hf g k h
    exact eq_of (dep_gen (Γ := lev D (k + n + 2)) 4 2 (fun p hp => ih (by have := (sub_good g hp).2; omega) (sub_good g hp).1) (inner_a g))
theorem dep_b : ∀ (n : Nat) {f : Fm}, f.ht ≤ n → f.good → ∀ {k : Nat} {h : Hv}, lev D (k + n + 2) 18 [f.val] h = .ok (.int f.dep) h := by
  intro n
  induction n with
  | zero =>
    intro f hf g k h
    exact eq_of (dep_gen (Γ := lev D (k + 0 + 1)) 18 16 (fun p hp => absurd (sub_good g hp).2 (by omega)) (inner_b g))
  | succ n ih =>
    intro f hf g k h
    exact eq_of (dep_gen (Γ := lev D (k + n + 2)) 18 16 (fun p hp => ih (by have := (sub_good g hp).2; omega) (sub_good g hp).1) (inner_b g))
end L03
set_option Elab.async false
set_option linter.all false
set_option maxRecDepth 100000
set_option maxHeartbeats 1000000
set_option autoImplicit false
namespace L03
open GH PySem
def notIn (acc : List Tx) (x : Tx) : Bool := !decide (x ∈ acc)
def ad (acc L : List Tx) : List Tx := acc ++ L.filter (notIn acc)
def dd : List Tx → List Tx
  | [x, y] => if y = x then [x] else [x, y]
  | L => L
def Fm.names : Fm → List Tx
  | .lab _ x => [x]
  | .chi _ x y => [x, y]
  | .at _ ns => ns
  | _ => []
def Fm.fv : Fm → List Tx
  | .not f => ad [] f.fv
  | .bin _ f g => ad (ad [] f.fv) g.fv
  | .q _ x f => (ad [] f.fv).filter fun y => !decide (y = x)
  | .lab _ x => dd [x]
  | .chi _ x y => dd [x, y]
  | .at _ ns => dd ns
def Fm.qn : Fm → Tx
  | .q _ x _ => x
  | _ => []
def fvS (L : List Fm) (acc : List Tx) : List Tx := L.foldl (fun a p => ad a p.fv) acc
abbrev Ok (L : List Tx) : Prop := L.Nodup ∧ ∀ x ∈ L, x ∈ U
theorem nodup_len : ∀ (L V : List Tx), L.Nodup → (∀ x ∈ L, x ∈ V) → L.length ≤ V.length
  | [], _, _, _ => Nat.zero_le _
  | x :: L, V, n, h => by
    have hx := h x (List.mem_cons_self ..)
    obtain ⟨n1, n2⟩ := List.nodup_cons.mp n
    have := nodup_len L (V.erase x) n2 fun y hy => (List.mem_erase_of_ne (fun e : y = x => n1 (by rw [← e]; exact hy))).mpr (h y (List.mem_cons_of_mem _ hy))
    have e := List.length_erase_of_mem hx
    have p := List.length_pos_of_mem hx
    simp only [List.length_cons]
    omega
theorem Ok.len {L : List Tx} (o : Ok L) : L.length ≤ 14 := nodup_len L U o.1 o.2
theorem Ok.tx {L : List Tx} (o : Ok L) : TxOk L := fun x hx => U_ok x (o.2 x hx)
theorem ok_ad {A L : List Tx} (a : Ok A) (b : Ok L) : Ok (ad A L) := by
  refine ⟨List.nodup_append.mpr ⟨a.1, b.1.filter _, fun x hx y hy => ?_⟩, fun x hx => ?_⟩
  · rintro rfl
    simp only [List.mem_filter, notIn, Bool.not_eq_true', decide_eq_false_iff_not] at hy
    exact hy.2 hx
  · rcases List.mem_append.mp hx with hx | hx
    · exact a.2 x hx
    · exact b.2 x (List.mem_filter.mp hx).1
theorem ok_nil : Ok [] := ⟨.nil, by simp⟩
theorem ok_fil {L : List Tx} (o : Ok L) (p : Tx → Bool) : Ok (L.filter p) := ⟨o.1.filter _, fun x hx => o.2 x (List.mem_filter.mp hx).1⟩
theorem ok_dd {L : List Tx} (hl : L.length ≤ 2) (hu : ∀ x ∈ L, x ∈ U) : Ok (dd L) ∧ ∀ x, x ∈ dd L ↔ x ∈ L := by
  match L, hl with
  | [], _ => exact ⟨ok_nil, by simp [dd]⟩
  | [x], _ => exact ⟨⟨by simp [dd], by simpa [dd] using hu⟩, by simp [dd]⟩
  | [x, y], _ =>
    show Ok (if y = x then [x] else [x, y]) ∧ ∀ z, z ∈ (if y = x then [x] else [x, y]) ↔ z ∈ [x, y]
    by_cases e : y = x
    · subst e
      rw [if_pos rfl]
      exact ⟨⟨by simp, by simpa using hu⟩, by simp⟩
    · rw [if_neg e]
      exact ⟨⟨by simp [Ne.symm e], hu⟩, fun z => Iff.rfl⟩
theorem names_ok {f : Fm} (g : f.good) : f.names.length ≤ 2 ∧ ∀ x ∈ f.names, x ∈ U := by
  cases f with
  | lab a x => exact ⟨by simp [Fm.names], by simpa [Fm.names] using g.2⟩
  | chi i x y => exact ⟨by simp [Fm.names], by simpa [Fm.names, Fm.good] using g⟩
  | «at» w ns => exact ⟨g.2.1, g.2.2.2⟩
  | _ => exact ⟨by simp [Fm.names], by simp [Fm.names]⟩
theorem fv_ok : ∀ {f : Fm}, f.good → Ok f.fv
  | .not f, g => ok_ad ok_nil (fv_ok (f := f) g)
  | .bin _ f f', g => ok_ad (ok_ad ok_nil (fv_ok (f := f) g.1)) (fv_ok (f := f') g.2)
  | .q _ x f, g => ok_fil (ok_ad ok_nil (fv_ok (f := f) g.2)) _
  | .lab a x, g => (ok_dd (names_ok (f := .lab a x) g).1 (names_ok (f := .lab a x) g).2).1
  | .chi i x y, g => (ok_dd (names_ok (f := .chi i x y) g).1 (names_ok (f := .chi i x y) g).2).1
  | .at w ns, g => (ok_dd (names_ok (f := .at w ns) g).1 (names_ok (f := .at w ns) g).2).1
theorem fvS_ok {L : List Fm} (hL : ∀ p ∈ L, p.good) {acc : List Tx} (o : Ok acc) : Ok (fvS L acc) := by
  induction L generalizing acc with
  | nil => exact o
  | cons p L ih => exact ih (fun q hq => hL q (List.mem_cons_of_mem _ hq)) (ok_ad o (fv_ok (hL p (List.mem_cons_self ..))))
theorem fv_atom {f : Fm} (e : f.subs = []) : f.fv = dd f.names ∧ f.isQ = false := by
  cases f <;> first | exact ⟨rfl, rfl⟩ | cases e
theorem fv_comp {f : Fm} (e : f.subs ≠ []) : f.isQ = false → f.fv = fvS f.subs [] := by
  cases f <;> intro z <;> first | rfl | exact absurd rfl e | cases z
theorem lc_cond {x : Tx} {A : List Tx} (ox : okV (.str x) = true) (o : TxOk A) (h : Hv) : vNotIn (.str x) (.lst (A.map .str)) h = .ok (.bl (!decide (x ∈ A))) h := vNotIn_lstTxt ox o h
theorem names_cut {f : Fm} (e : f.subs = []) (g : f.good) {l : GH.Loc} {h : Hv} {P : Val → Hv → Prop} (hl : l[0]? = some (some f.val)) (z : P (.tup (f.names.map .str)) h) :
    ok (dIf (dB (dBin vIn (dBin vIx (dVar 0) (dC (.int 0))) (dLst (dCons (dC (.str [108, 97, 98, 101, 108])) (dCons (dC (.str [99, 104, 105, 108, 100])) dNil))))) (dCut (dVar 0) (oSome (dC (.int 2))) oNone) (dCut (dVar 0) (oSome (dC (.int 1))) oNone) l h) P := by
  have hw : dBin vIx (dVar 0) (dC (.int 0)) l h = .ok (.str f.word) h := by simp [dVar, hl, word_ix]
  have c2 : ∀ L : List Val, cut L (some 2) none = L.drop 2 := fun L => cut_drop L 2
  have c1 : ∀ L : List Val, cut L (some 1) none = L.drop 1 := fun L => cut_drop L 1
  cases f with
  | lab a x =>
    refine dif_ (inLd (c := true) [tLabel, tChild] hw (by decide) (word_ok g) (by decide +kernel) rfl) (fun _ => ?_) (fun z => by cases z)
    simp [dVar, hl, Fm.val, vCut, c2]
    exact z
  | chi i x y =>
    refine dif_ (inLd (c := true) [tLabel, tChild] hw (by decide) (word_ok g) (by decide +kernel) rfl) (fun _ => ?_) (fun z => by cases z)
    simp [dVar, hl, Fm.val, vCut, c2]
    exact z
  | «at» w ns =>
    refine dif_ (inLd (c := false) [tLabel, tChild] hw (by decide) (word_ok g) (by decide +kernel) (decide_eq_false (W6_ne w g.1).2.2.2.2)) (fun z => by cases z) (fun _ => ?_)
    simp [dVar, hl, Fm.val, vCut, c1]
    exact z
  | _ => cases e
theorem rng0 (n : Nat) : rangeL 0 n = (List.range n).map fun i : Nat => Val.int (0 + (i : Int)) := rfl
theorem dd_rng {L : List Tx} (hl : L.length ≤ 2) : (((List.range L.length).filter fun j => !decide (L[j]?.getD [] ∈ L.take j)).map fun j => Val.str (L[j]?.getD [])) = (dd L).map .str := by
  match L, hl with
  | [], _ => rfl
  | [x], _ => rfl
  | [x, y], _ =>
    unfold dd
    by_cases e : y = x
    · subst e; simp [List.range, List.range.loop, List.filter]
    · simp [List.range, List.range.loop, List.filter, e]
theorem okVs_of : ∀ {l : List Val}, (∀ v ∈ l, okV v = true) → okVs l = true
  | [], _ => rfl
  | v :: l, h => by simp only [okVs, h v (List.mem_cons_self ..), okVs_of fun u hu => h u (List.mem_cons_of_mem _ hu), Bool.and_self]
theorem okV_fm : ∀ {f : Fm}, f.good → okV f.val = true
  | .lab a x, g => okVs_of fun v hv => by
    simp only [List.mem_cons, List.not_mem_nil, or_false] at hv
    rcases hv with rfl | rfl | rfl
    · exact (by decide +kernel)
    · exact g.1
    · exact U_ok _ g.2
  | .chi i x y, g => okVs_of fun v hv => by
    simp only [List.mem_cons, List.not_mem_nil, or_false] at hv
    rcases hv with rfl | rfl | rfl | rfl
    · exact (by decide +kernel)
    · rfl
    · exact U_ok _ g.1
    · exact U_ok _ g.2
  | .at w ns, g => okVs_of fun v hv => by
    rcases List.mem_cons.mp hv with rfl | hv
    · exact W6_ok _ g.1
    · obtain ⟨x, hx, rfl⟩ := List.mem_map.mp hv
      exact U_ok _ (g.2.2.2 x hx)
  | .not f, g => okVs_of fun v hv => by
    simp only [List.mem_cons, List.not_mem_nil, or_false] at hv
    rcases hv with rfl | rfl
    · exact (by decide +kernel)
    · exact okV_fm (f := f) g
  | .bin b f f', g => okVs_of fun v hv => by
    simp only [List.mem_cons, List.not_mem_nil, or_false] at hv
    rcases hv with rfl | rfl | rfl
    · cases b <;> exact (by decide +kernel)
    · exact okV_fm (f := f) g.1
    · exact okV_fm (f := f') g.2
  | .q b x f, g => okVs_of fun v hv => by
    simp only [List.mem_cons, List.not_mem_nil, or_false] at hv
    rcases hv with rfl | rfl | rfl
    · cases b <;> exact (by decide +kernel)
    · exact U_ok _ g.1
    · exact okV_fm (f := f) g.2
theorem okVs_fm {L : List Fm} (h : ∀ p ∈ L, p.good) : okVs (L.map Fm.val) = true := okVs_of fun v hv => by
  obtain ⟨p, hp, rfl⟩ := List.mem_map.mp hv
  exact okV_fm (h p hp)
theorem free_b : ∀ (n : Nat) {f : Fm}, f.ht ≤ n → f.good → ∀ {k : Nat} {h : Hv}, lev D (k + n + 2) 17 [f.val] h = .ok (.lst (f.fv.map .str)) h := by
  intro n
  induction n using Nat.strongRecOn with
  | _ n ih =>
    intro f hf g k h
    have hrec : ∀ p ∈ f.subs, ∀ h, lev D (k + n + 1) 17 [p.val] h = .ok (.lst (p.fv.map .str)) h := fun p hp h => by
      obtain ⟨g1, g2⟩ := sub_good g hp
      have := ih p.ht (by omega) (Nat.le_refl _) g1 (k := k + n - 1 - p.ht) (h := h)
      rw [show k + n - 1 - p.ht + p.ht + 2 = k + n + 1 by omega] at this
      exact this
    refine eq_of ?_
    show ok (runDef 7 (b__law_free (lev D (k + n + 1))) [f.val] h) _
    rw [ok_run]
    refine asg_ (h1 := h) (v := gv f.subs) (by simp [dVar, inner_b g]) ?_
    refine asg_ (h1 := h) (v := .lst []) (by simp [mkL_ok]) ?_
    refine sok_seqo (fun l' h' => (∃ x, l' = [some f.val, some (gv f.subs), some (.lst ((fvS f.subs []).map .str)), x, none, none, none]) ∧ h' = h) ?_ ?_
    · intro R' hR
      simp only [e_for, e_iseq, dVar, List.map_cons, List.map_nil, List.cons_append, List.nil_append, List.set_cons_succ, List.set_cons_zero, List.getElem?_cons_succ, List.getElem?_cons_zero, Res.bind_ok, vIter_lst, Res.to_ok]
      refine forL_invo (fun items l' h' => ∃ (rest : List Fm) (acc : List Tx) (x : Option Val), items = rest.map Fm.val ∧ (∀ p ∈ rest, p ∈ f.subs) ∧ Ok acc ∧ fvS rest acc = fvS f.subs [] ∧ l' = [some f.val, some (gv f.subs), some (.lst (acc.map .str)), x, none, none, none] ∧ h' = h) ?_ ?_ _ _ _ ?_
      · intro I' hI v r l' h' ⟨rest, acc, x, hit, hsub, hacc, hfv, hl', eh⟩
        subst hl' eh
        cases rest with
        | nil => cases hit
        | cons p rest =>
          simp only [List.map_cons, List.cons.injEq] at hit
          obtain ⟨rfl, rfl⟩ := hit
          refine ⟨trivial, ?_⟩
          have hp := hsub p (List.mem_cons_self ..)
          have op := fv_ok (sub_good g hp).1
          have oa := ok_ad hacc op
          have ln := oa.len
          have ef : ad acc p.fv = acc ++ p.fv.filter (notIn acc) := rfl
          rw [ef, List.length_append] at ln
          simp only [e_name, tok_ok, List.set_cons_succ, List.set_cons_zero]
          refine asg_ (h1 := h') (v := .lst ((ad acc p.fv).map .str)) ?_ ?_
          · simp only [e_bin, dVar, List.getElem?_cons_succ, List.getElem?_cons_zero, Res.bind_ok, dLc, e_iseq, e_call, e_cons, e_nil, hrec p hp, vIter_lst, frozen]
            rw [lcL_filL Val.str (notIn acc) Val.str (srcOk_none _ _) p.fv [] fun y hy => ⟨_, rfl, by simp [wipeL, dVar, vNotIn_lstTxt (op.tx y hy) hacc.tx, notIn], fun _ => by simp [wipeL, dVar]⟩]
            simp only [List.nil_append, Res.bind_ok, frozen]
            rw [add_lst (by simp only [List.length_map]; omega), ef, List.map_append]
          · simp only [List.set_cons_succ, List.set_cons_zero, e_next, sok_nx]
            exact hI _ _ _ ⟨rest, _, _, rfl, fun q hq => hsub q (List.mem_cons_of_mem _ hq), oa, hfv, rfl, rfl⟩
      · intro l' h' ⟨rest, acc, x, hit, hsub, hacc, hfv, hl', eh⟩
        subst hl' eh
        cases rest with
        | cons => cases hit
        | nil => exact ⟨trivial, hR _ _ ⟨⟨x, by rw [← hfv]; rfl⟩, rfl⟩⟩
      · exact ⟨f.subs, [], none, rfl, fun p hp => hp, ok_nil, rfl, rfl, rfl⟩
    · rintro l' h' ⟨⟨x, rfl⟩, rfl⟩
      have osub : okVs (f.subs.map Fm.val) = true := okVs_fm fun p hp => (sub_good g hp).1
      have e1 : dB (dBin vEq (dVar 1) (dLst dNil)) [some f.val, some (gv f.subs), some (.lst ((fvS f.subs []).map .str)), x, none, none, none] h' = .ok f.subs.isEmpty h' := by
        simp [dVar, mkL_ok, (vEq_lnil _ osub h').1]
      have fin : ∀ (found : List Tx) (nm kk : Option Val), Ok found → f.fv = (if f.isQ then found.filter (fun y => !decide (y = f.qn)) else found) →
          sok ((sSeq (sIf (dB (dBin vIn (dBin vIx (dVar 0) (dC (.int 0))) (dLst (strsD QS)))) (sSeq (sAsg (dLc frozen [6] (iSeq (dVar 2)) (gName 6) (dB (dBin vNe (dVar 6) (dBin vIx (dVar 0) (dC (.int 1))))) (dVar 6)) (gName 2)) sNext) sNext) (sSeq (sRet (dVar 2)) sNext)) [some f.val, some (gv f.subs), some (.lst (found.map .str)), x, nm, kk, none] h') { nx := fun _ h => Val.non = .lst (f.fv.map .str) ∧ h = h', rt := fun v h'' => v = .lst (f.fv.map .str) ∧ h'' = h' } := by
        intro found nm kk of hfv
        refine if_ (inLd QS (w := f.word) (by simp [dVar, word_ix]) (by decide) (word_ok g) Q_ok (at_q g)) (fun e => ?_) (fun e => ?_)
        · cases f with
          | q b y f0 =>
            refine asg_ (h1 := h') (v := .lst ((Fm.q b y f0).fv.map .str)) ?_ ?_
            · simp only [e_iseq, dVar, List.getElem?_cons_succ, List.getElem?_cons_zero, Res.bind_ok, dLc, vIter_lst, frozen]
              rw [lcL_filL Val.str (fun z => !decide (z = y)) Val.str (srcOk_none _ _) found [] fun z hz => ⟨_, rfl, by simp [wipeL, dVar, Fm.val], fun _ => by simp [wipeL, dVar]⟩]
              simp [frozen, hfv, Fm.isQ, Fm.qn]
              congr
            · simp only [e_next, sok_nx, List.set_cons_succ, List.set_cons_zero]; refine ret_ ?_; simp only [dVar, List.getElem?_cons_succ, List.getElem?_cons_zero, ok_ok, and_self]
          | _ => cases e
        · refine ret_ ?_
          rw [if_neg (by rw [e]; simp)] at hfv
          simp [dVar, hfv]
      refine if_ e1 (fun e => ?_) (fun e => ?_)
      · have es : f.subs = [] := by simpa using e
        refine asgo_ (fun v h'' => v = .tup (f.names.map .str) ∧ h'' = h') (fun Q' hQ => names_cut es g rfl (hQ _ _ ⟨rfl, rfl⟩)) ?_
        rintro v h2 ⟨e3, e4⟩
        subst e3
        rw [e4]
        obtain ⟨n1, n2⟩ := names_ok g
        refine asg_ (h1 := h') (v := .lst ((dd f.names).map .str)) ?_ ?_
        · simp only [dLc, e_rng1, e_len, dVar, List.getElem?_cons_succ, List.getElem?_cons_zero, List.set_cons_succ, List.set_cons_zero, Res.bind_ok, vLen_tup, List.length_map]
          rw [rng_ok (by omega)]
          simp only [Res.bind_ok, rng0]
          rw [lcL_filL (fun i : Nat => Val.int (0 + (i : Int))) (fun j => !decide (f.names[j]?.getD [] ∈ f.names.take j)) (fun j => Val.str (f.names[j]?.getD [])) (srcOk_none _ _) (List.range f.names.length) [] fun j hj => ?_]
          · simp only [List.nil_append, Res.bind_ok, frozen, dd_rng n1]
          · have hj := List.mem_range.mp hj
            have hx : vIx (.tup (f.names.map .str)) (.int (j : Int)) h' = .ok (.str (f.names[j]?.getD [])) h' := by
              exact vIx_tup (nth_nat (by simp [List.getElem?_eq_getElem hj]))
            have ct : cut (f.names.map Val.str) none (some (j : Int)) = (f.names.take j).map .str := by rw [cut_take, List.map_take]
            have om : f.names[j]?.getD [] ∈ f.names := by simp [List.getElem?_eq_getElem hj]
            refine ⟨_, rfl, ?_, fun _ => ?_⟩
            · simp [wipeL, dVar, vCut]
              rw [hx, ct]
              simp only [Res.bind_ok]
              rw [vNotIn_tupTxt (U_ok _ (n2 _ om)) (fun y hy => U_ok _ (n2 _ (List.mem_of_mem_take hy)))]
              simp
            · simp [wipeL, dVar]
              exact hx
        · simp only [e_next, sok_nx, List.set_cons_succ, List.set_cons_zero]
          refine fin _ _ _ (ok_dd n1 n2).1 ?_
          obtain ⟨a1, a2⟩ := fv_atom es
          rw [a2, a1]
          rfl
      · refine fin _ _ _ (fvS_ok (fun p hp => (sub_good g hp).1) ok_nil) ?_
        have ne : f.subs ≠ [] := by simpa using e
        cases hq : f.isQ with
        | false => rw [fv_comp ne hq]; rfl
        | true =>
          cases f with
          | q b y f0 =>
            simp only [Fm.fv, fvS, Fm.subs, Fm.qn, Fm.isQ, if_true, List.foldl_cons, List.foldl_nil]
            try congr
          | _ => cases hq
end L03
set_option Elab.async false
set_option linter.all false
set_option maxRecDepth 100000
set_option maxHeartbeats 1000000
set_option autoImplicit false
namespace L03
open GH PySem
/-! the program's free variables -/
def keysOk (l : List (Val × Val)) (K : List Tx) : Prop := l.map (·.1) = K.map .str ∧ Ok K
theorem kEq_s (a b : Tx) : kEq (.str a) (.str b) = decide (a = b) := rfl
theorem keys_any : ∀ {l : List (Val × Val)} {K : List Tx} (x : Tx), l.map (·.1) = K.map .str → (l.any fun p => kEq p.1 (.str x)) = decide (x ∈ K)
  | [], [], x, _ => rfl
  | [], _ :: _, x, e => by cases e
  | _ :: _, [], x, e => by cases e
  | p :: l, k :: K, x, e => by
    simp only [List.map_cons, List.cons.injEq] at e
    rw [List.any_cons, keys_any x e.2, e.1, kEq_s]
    by_cases h1 : k = x <;> by_cases h2 : x ∈ K <;> simp [h1, h2, eq_comm]
theorem keys_put {l : List (Val × Val)} {K : List Tx} {x : Tx} {v : Val} (hk : keysOk l K) (hx : x ∈ U) : ∃ K', keysOk (dPut l (.str x) v) K' ∧ ∀ y, y ∈ K' ↔ y ∈ K ∨ y = x := by
  unfold dPut
  rw [keys_any x hk.1]
  by_cases h : x ∈ K
  · refine ⟨K, ⟨?_, hk.2⟩, fun y => ⟨.inl, fun z => z.elim id fun e => e ▸ h⟩⟩
    rw [if_pos (decide_eq_true h), List.map_map, ← hk.1]
    congr 1
    funext p
    simp only [Function.comp_apply]
    split <;> rfl
  · refine ⟨K ++ [x], ⟨?_, ?_, ?_⟩, fun y => by simp⟩
    · rw [if_neg (by simpa using h), List.map_append, hk.1]
      simp
    · refine List.nodup_append.mpr ⟨hk.2.1, by simp, fun a ha b hb => ?_⟩
      rw [List.mem_singleton.mp hb]
      rintro rfl
      exact h ha
    · intro y hy
      rcases List.mem_append.mp hy with hy | hy
      · exact hk.2.2 y hy
      · rw [List.mem_singleton.mp hy]; exact hx
theorem keys_drop {l : List (Val × Val)} {K : List Tx} (x : Tx) : l.map (·.1) = K.map .str → (dDrop l (.str x)).map (·.1) = (K.filter fun y => !decide (y = x)).map .str := by
  unfold dDrop
  induction l generalizing K with
  | nil =>
    intro e
    cases K with
    | nil => rfl
    | cons => cases e
  | cons p l ih =>
    intro e
    cases K with
    | nil => cases e
    | cons k K =>
      simp only [List.map_cons, List.cons.injEq] at e
      have := ih e.2
      simp only [List.filter_cons, e.1, kEq_s]
      by_cases h : k = x
      · simp [h, this]
      · simp [h, this, e.1]
theorem keys_len {l : List (Val × Val)} {K : List Tx} (hk : keysOk l K) : l.length ≤ 14 := by
  have := congrArg List.length hk.1
  simp only [List.length_map] at this
  rw [this]
  exact hk.2.len
theorem dGet_none {l : List (Val × Val)} {K : List Tx} {x : Tx} (e : l.map (·.1) = K.map .str) (h : dGet l (.str x) = none) : x ∉ K := by
  have a := keys_any x e
  intro hx
  rw [decide_eq_true hx] at a
  obtain ⟨p, hp, hq⟩ := List.any_eq_true.mp a
  simp only [dGet, Option.map_eq_none_iff] at h
  exact absurd hq (by simpa using List.find?_eq_none.mp h p hp)
theorem atomv {f : Fm} (e : f.subs = []) (g : f.good) {k : Nat} {h : Hv} : lev D (k + 1) 1 [f.val] h = .ok (.lst (f.names.map .str)) h := by
  refine eq_of ?_
  show ok (runDef 2 (b_atom_variables (lev D k)) [f.val] h) _
  rw [ok_run]
  refine asg_ (h1 := h) (v := .str f.word) (by simp [dVar, word_ix]) ?_
  have c1 : ∀ L : List Val, cut L (some 1) none = L.drop 1 := fun L => cut_drop L 1
  cases f with
  | lab a x => exact skip_ rfl (by simp only [Fm.word]; decide) (hit_ rfl (by simp [dVar, Fm.val, mkL_ok, Fm.names]))
  | chi i x y => exact skip_ rfl (by simp only [Fm.word]; decide) (skip_ rfl (by simp only [Fm.word]; decide) (hit_ rfl (by simp [dVar, Fm.val, mkL_ok, Fm.names])))
  | «at» w ns =>
    have n := W6_ne w g.1
    by_cases hw : w = tTrue
    · have : ns = [] := g.2.2.1 hw
      subst this hw
      exact hit_ rfl (by simp [mkL_ok, Fm.names])
    · refine skip_ rfl hw (skip_ rfl n.1 (skip_ rfl n.2.1 (ret_ ?_)))
      simp [dVar, Fm.val, vCut, c1, vList, seqOf, Fm.names]
  | _ => cases e
/-- names put into the dict -/
theorem put_loop {s : Src} (hs : ∀ h, srcOk s h) {h : Hv} {j : Nat} {a c : Option Val} {P : Post} : ∀ (M : List Tx) (l : List (Val × Val)) (K : List Tx) (d : Option Val) (hv : Hv), h.length = j → hv = h ++ [.dic l] → keysOk l K → (∀ x ∈ M, x ∈ U) →
    (∀ l' K' d', keysOk l' K' → (∀ y, y ∈ K' ↔ y ∈ K ∨ y ∈ M) → P.nx [a, some (.ref j), c, d'] (h ++ [.dic l'])) →
    sok (forL (gName 3) (sSeq (sAsg (dC (.bl true)) (gSub (dVar 1) (dVar 3))) sNext) s (M.map .str) [a, some (.ref j), c, d] hv) P := by
  intro M
  induction M with
  | nil =>
    intro l K d hv hj e hk _ z
    simp only [List.map_nil, forL, if_pos (hs _), sok_nx]
    rw [e]
    exact z l K d hk (by simp)
  | cons x M ih =>
    intro l K d hv hj e hk hM z
    subst hj e
    simp only [List.map_cons, forL, if_pos (hs _), e_name, List.set_cons_succ, List.set_cons_zero]
    have hx := hM x (List.mem_cons_self ..)
    obtain ⟨K', hk', hm⟩ := keys_put (v := .bl true) hk hx
    have hl := keys_len hk
    have es : vSet (.ref h.length) (.str x) (.bl true) (h ++ [.dic l]) = some (h ++ [.dic (dPut l (.str x) (.bl true))]) := by
      simp [vSet, keyOf, lineN]
      omega
    simp [dVar, es, Res.toT]
    refine ih _ K' _ _ rfl rfl hk' (fun y hy => hM y (List.mem_cons_of_mem _ hy)) fun l' K'' d' h1 h2 => z l' K'' d' h1 fun y => ?_
    rw [h2, hm, List.mem_cons, or_assoc]
theorem free_a : ∀ (n : Nat) {f : Fm}, f.ht ≤ n → f.good → ∀ {k : Nat} {h : Hv}, lev D (k + n + 2) 3 [f.val] h = .ok (.lst ((srt f.fv).map .str)) h := by
  intro n
  induction n using Nat.strongRecOn with
  | _ n ih =>
    intro f hf g k h0
    have hrec : ∀ p ∈ f.subs, ∀ h, lev D (k + n + 1) 3 [p.val] h = .ok (.lst ((srt p.fv).map .str)) h := fun p hp h => by
      obtain ⟨g1, g2⟩ := sub_good g hp
      have := ih p.ht (by omega) (Nat.le_refl _) g1 (k := k + n - 1 - p.ht) (h := h)
      rw [show k + n - 1 - p.ht + p.ht + 2 = k + n + 1 by omega] at this
      exact this
    have tx : TxOk (srt f.fv) := fun x hx => (fv_ok g).tx x (srt_mem.mp hx)
    refine eq_of ?_
    show ok (tidy (runDef 4 (b_free_variables (lev D (k + n + 1))) [f.val] h0) h0) _
    refine tidy_app ?_
    rw [ok_run]
    have hw : dBin vIx (dVar 0) (dC (.int 0)) [some f.val, none, none, none] h0 = .ok (.str f.word) h0 := by simp [dVar, word_ix]
    refine if_ (inTd ATOMS hw (word_ok g) A_ok (at_atom g)) (fun e => ?_) (fun e => ?_)
    · have es : f.subs = [] := by simpa using e
      obtain ⟨n1, n2⟩ := names_ok g
      obtain ⟨d1, d2⟩ := ok_dd n1 n2
      have hv := vSortSet_txt (L := f.names) (M := dd f.names) (v := .lst (f.names.map .str)) (h := h0) rfl (by omega) d1.1 d2
      refine ret_ ?_
      simp [dVar, atomv es g, hv]
      rw [(fv_atom es).1] at tx ⊢
      first | exact okVs_txt tx | exact ⟨okVs_txt tx, rfl⟩
    · have ne : f.subs ≠ [] := by simpa using e
      refine asg_ (h1 := h0 ++ [.dic []]) (v := .ref h0.length) rfl ?_
      refine sok_seqo (fun l' h' => ∃ x y l K, keysOk l K ∧ (∀ z, z ∈ K ↔ z ∈ fvS f.subs []) ∧ l' = [some f.val, some (.ref h0.length), x, y] ∧ h' = h0 ++ [.dic l]) ?_ ?_
      · intro R' hR
        simp only [e_for, e_iseq, e_call, e_cons, e_nil, dVar, List.map_cons, List.map_nil, List.cons_append, List.nil_append, List.set_cons_succ, List.set_cons_zero, List.getElem?_cons_succ, List.getElem?_cons_zero, Res.bind_ok, inner_a g, vIter_lst, Res.to_ok]
        refine forL_invo (fun items l' h' => ∃ (rest : List Fm) (acc : List Tx) (x y : Option Val) (l : List (Val × Val)) (K : List Tx), items = rest.map Fm.val ∧ (∀ p ∈ rest, p ∈ f.subs) ∧ keysOk l K ∧ (∀ z, z ∈ K ↔ z ∈ acc) ∧ fvS rest acc = fvS f.subs [] ∧ l' = [some f.val, some (.ref h0.length), x, y] ∧ h' = h0 ++ [.dic l]) ?_ ?_ _ _ _ ?_
        · intro I' hI v r l' h' ⟨rest, acc, x, y, l, K, hit, hsub, hk, hK, hfv, hl', eh⟩
          subst hl' eh
          cases rest with
          | nil => cases hit
          | cons p rest =>
            simp only [List.map_cons, List.cons.injEq] at hit
            obtain ⟨rfl, rfl⟩ := hit
            refine ⟨trivial, ?_⟩
            have hp := hsub p (List.mem_cons_self ..)
            have op := fv_ok (sub_good g hp).1
            simp only [e_name, tok_ok, List.set_cons_succ, List.set_cons_zero]
            rw [e_seq, sok_then]
            simp only [e_for, e_iseq, e_call, e_cons, e_nil, dVar, List.getElem?_cons_succ, List.getElem?_cons_zero, Res.bind_ok, hrec p hp, vIter_lst, Res.to_ok]
            refine put_loop (fun h => srcOk_none _ h) (h := h0) (j := h0.length) (srt p.fv) l K y _ rfl rfl hk (fun x hx => op.2 x (srt_mem.mp hx)) fun l' K' d' h1 h2 => ?_
            simp only [e_next, sok_nx]
            refine hI _ _ _ ⟨rest, ad acc p.fv, _, _, l', K', rfl, fun q hq => hsub q (List.mem_cons_of_mem _ hq), h1, fun z => ?_, hfv, rfl, rfl⟩
            rw [h2, hK, srt_mem]
            simp only [ad, List.mem_append, List.mem_filter, notIn, Bool.not_eq_true', decide_eq_false_iff_not]
            by_cases hz : z ∈ acc <;> simp [hz]
        · intro l' h' ⟨rest, acc, x, y, l, K, hit, hsub, hk, hK, hfv, hl', eh⟩
          subst hl' eh
          cases rest with
          | cons => cases hit
          | nil => exact ⟨trivial, hR _ _ ⟨x, y, l, K, hk, fun z => by rw [hK, ← hfv]; rfl, rfl, rfl⟩⟩
        · exact ⟨f.subs, [], none, none, [], [], rfl, fun p hp => hp, ⟨rfl, ok_nil⟩, fun z => Iff.rfl, rfl, rfl, rfl⟩
      · rintro l' h' ⟨x, y, l, K, hk, hK, rfl, rfl⟩
        have fin : ∀ (l1 : List (Val × Val)) (K1 : List Tx), keysOk l1 K1 → (∀ z, z ∈ K1 ↔ z ∈ f.fv) → sok ((sSeq (sRet (dFn vSortDic (dVar 1))) sNext) [some f.val, some (.ref h0.length), x, y] (h0 ++ [.dic l1])) { nx := fun _ h => (∃ g, h = h0 ++ g) ∧ okV Val.non = true ∧ Val.non = .lst ((srt f.fv).map .str) ∧ h0 = h0, rt := fun v h' => (∃ g, h' = h0 ++ g) ∧ okV v = true ∧ v = .lst ((srt f.fv).map .str) ∧ h0 = h0 } := by
          intro l1 K1 hk1 hz
          refine ret_ ?_
          have hlen := hk1.2.len
          have := vSortDic_txt (l := l1) (i := h0.length) (L := K1) (h := h0 ++ [.dic l1]) (by simp) hk1.1 (by omega)
          simp [dVar, this]
          have es := srt_same hk1.2.1 (fv_ok g).1 hz
          rw [es]
          exact ⟨okVs_txt tx, rfl⟩
        have hw2 : dBin vIx (dVar 0) (dC (.int 0)) [some f.val, some (.ref h0.length), x, y] (h0 ++ [.dic l]) = .ok (.str f.word) (h0 ++ [.dic l]) := by simp [dVar, word_ix]
        refine if_ (inTd QS hw2 (word_ok g) Q_ok (at_q g)) (fun e => ?_) (fun e => ?_)
        · cases f with
          | q b y0 f0 =>
            have hfv : ∀ z, z ∈ (Fm.q b y0 f0).fv ↔ z ∈ K ∧ z ≠ y0 := fun z => by
              rw [hK]
              simp [Fm.fv, fvS, Fm.subs]
            have hd : isDic (h0 ++ [.dic l]) (.ref h0.length) = true := by simp [isDic, dicOf]
            cases hg : dGet l (.str y0) with
            | none =>
              refine expr_ (h1 := h0 ++ [.dic l]) (v := .non) ?_ ?_
              · simp [dPop2, dVar, hd, Fm.val, keyOf, hg]
              · rw [e_next, sok_nx]
                refine fin l K hk fun z => ?_
                rw [hfv]
                have := dGet_none hk.1 hg
                exact ⟨fun hz => ⟨hz, fun e => this (e ▸ hz)⟩, fun hz => hz.1⟩
            | some v0 =>
              refine expr_ (h1 := h0 ++ [.dic (dDrop l (.str y0))]) (v := v0) ?_ ?_
              · simp [dPop2, dVar, hd, Fm.val, keyOf, hg]
              · rw [e_next, sok_nx]
                refine fin _ (K.filter fun z => !decide (z = y0)) ⟨keys_drop y0 hk.1, ok_fil hk.2 _⟩ fun z => ?_
                rw [hfv]
                simp
          | _ => cases e
        · refine fin l K hk fun z => ?_
          rw [hK, fv_comp ne e]
end L03
set_option Elab.async false
set_option linter.all false
set_option maxRecDepth 100000
set_option maxHeartbeats 1000000
set_option autoImplicit false
namespace L03
open GH PySem
def IS : Tx := [73, 110, 118, 97, 108, 105, 100, 83, 101, 110, 116, 101, 110, 99, 101]
abbrev kv (n : Int) (ls : List Tx) : Val := .tup [.int n, .tup (ls.map .str)]
def okh (n : Int) (ls : List Tx) : Fm → Bool
  | .lab a _ => decide (a ∈ ls)
  | .chi i _ _ => decide (i < n)
  | _ => true
def Fm.fits (n : Int) (ls : List Tx) : Fm → Bool
  | .not f => okh n ls (.not f) && decide ((Fm.not f).fv.length ≤ 6) && (f.fits n ls && true)
  | .bin b f g => okh n ls (.bin b f g) && decide ((Fm.bin b f g).fv.length ≤ 6) && (f.fits n ls && (g.fits n ls && true))
  | .q b x f => okh n ls (.q b x f) && decide ((Fm.q b x f).fv.length ≤ 6) && (f.fits n ls && true)
  | .lab a x => okh n ls (.lab a x) && decide ((Fm.lab a x).fv.length ≤ 6) && true
  | .chi i x y => okh n ls (.chi i x y) && decide ((Fm.chi i x y).fv.length ≤ 6) && true
  | .at w ns => okh n ls (.at w ns) && decide ((Fm.at w ns).fv.length ≤ 6) && true
theorem fits_eq (n : Int) (ls : List Tx) (f : Fm) : f.fits n ls = (okh n ls f && decide (f.fv.length ≤ 6) && f.subs.all (Fm.fits n ls)) := by cases f <;> rfl
theorem head_b {n : Int} {ls : List Tx} (ols : TxOk ls) {f : Fm} (g : f.good) {h : Hv} :
    dOr (dAnd (dB (dBin vEq (dBin vIx (dVar 1) (dC (.int 0))) (dC (.str [108, 97, 98, 101, 108])))) (dB (dBin vNotIn (dBin vIx (dVar 1) (dC (.int 1))) (dBin vIx (dVar 0) (dC (.int 1)))))) (dAnd (dB (dBin vEq (dBin vIx (dVar 1) (dC (.int 0))) (dC (.str [99, 104, 105, 108, 100])))) (dB (dBin vGe (dBin vIx (dVar 1) (dC (.int 1))) (dBin vIx (dVar 0) (dC (.int 0)))))) [some (kv n ls), some f.val, none] h = .ok (!okh n ls f) h := by
  cases f with
  | lab a x =>
    simp [dVar, Fm.val, tLabel, vNotIn_tupTxt g.1 ols, okh]
    by_cases ha : a ∈ ls <;> simp [ha]
  | chi i x y =>
    simp [dVar, Fm.val, tChild, okh]
    by_cases hi : i < n
    · have : ¬ n ≤ i := by omega
      simp [hi, this]
    · have : n ≤ i := by omega
      simp [hi, this]
  | «at» w ns =>
    have q := W6_ne w g.1
    have q1 : w ≠ [108, 97, 98, 101, 108] := q.1
    have q2 : w ≠ [99, 104, 105, 108, 100] := q.2.1
    simp [dVar, Fm.val, okh, q1, q2]
  | not f => simp [dVar, Fm.val, okh, tNot]
  | bin b f f' => cases b <;> simp [dVar, Fm.val, okh, tBin]
  | q b x f => cases b <;> simp [dVar, Fm.val, okh, tQ]
theorem fits_b {n0 : Int} {ls : List Tx} (ols : TxOk ls) : ∀ (n : Nat) {f : Fm}, f.ht ≤ n → f.good → ∀ {k : Nat} {h : Hv}, lev D (k + n + 3) 19 [kv n0 ls, f.val] h = .ok (.bl (f.fits n0 ls)) h := by
  intro n
  induction n using Nat.strongRecOn with
  | _ n ih =>
    intro f hf g k h
    have hrec : ∀ p ∈ f.subs, ∀ h, lev D (k + n + 2) 19 [kv n0 ls, p.val] h = .ok (.bl (p.fits n0 ls)) h := fun p hp h => by
      obtain ⟨g1, g2⟩ := sub_good g hp
      have := ih p.ht (by omega) (Nat.le_refl _) g1 (k := k + n - 1 - p.ht) (h := h)
      rw [show k + n - 1 - p.ht + p.ht + 3 = k + n + 2 by omega] at this
      exact this
    refine eq_of ?_
    show ok (runDef 3 (b__law_fits (lev D (k + n + 2))) [kv n0 ls, f.val] h) _
    rw [ok_run]
    refine if_ (head_b ols g) (fun e => ret_ ?_) (fun e => ret_ ?_)
    · have : okh n0 ls f = false := by simpa using e
      simp [fits_eq, this]
    · have eo : okh n0 ls f = true := by simpa using e
      simp [dVar, free_b n hf g]
      by_cases hl : f.fv.length ≤ 6
      · have hl2 : ((f.fv.length : Nat) : Int) ≤ 6 := by omega
        simp [hl2, dVar, dLc, inner_b g]
        rw [lcL_mapL Fm.val (fun p => .bl (p.fits n0 ls)) (srcOk_none _ _) f.subs [] fun p hp => ⟨_, rfl, by simp [wipeL, dVar, hrec p hp]⟩]
        simp only [List.nil_append, frozen, Res.bind_ok, ok_ok]
        have e2 : f.subs.map (fun p => Val.bl (p.fits n0 ls)) = (f.subs.map (Fm.fits n0 ls)).map .bl := by simp
        rw [e2, vAll_bls]
        simp [fits_eq n0 ls f, eo, hl, List.all_map, Function.comp_def]
      · have hl2 : ¬ ((f.fv.length : Nat) : Int) ≤ 6 := by omega
        simp [hl2, fits_eq n0 ls f, eo, hl]
/-! what raises -/
theorem raise_if {t : DenG Bool} {E : Tx} {rest : Stm} {l : GH.Loc} {h : Hv} {c : Bool} (e : t l h = .ok c h) : sSeq (sIf t (sSeq (sRaise E) sNext) sNext) rest l h = if c = true then .exc ⟨E, []⟩ l h else rest l h := by
  rw [e_seq, e_if, e]
  cases c <;> rfl
theorem asg_eq {d : Den} {t : Tg} {rest : Stm} {l l1 : GH.Loc} {h h1 : Hv} {v : Val} (e : d l h = .ok v h1) (e2 : t v l h1 = .ok l1 h1) : sSeq (sAsg d t) rest l h = rest l1 h1 := by
  rw [e_seq, e_asg, e]
  simp [e2]
theorem parts_loop {Γ : Gam} {n0 : Int} {ls : List Tx} {a : Option Val} {x y : Option Val} {h : Hv} {s : Src} (hs : srcOk s h) : ∀ (L : List Fm) (z : Option Val), (∀ p ∈ L, Γ 5 [kv n0 ls, p.val] h = if p.fits n0 ls = true then .ok .non h else .exc ⟨IS, []⟩ h) →
    ∃ z', forL (gName 2) (sSeq (sExpr (dCall (Γ 5) (dCons (dVar 0) (dCons (dVar 2) dNil)))) sNext) s (L.map Fm.val) [some (kv n0 ls), a, z, x, y] h = if L.all (Fm.fits n0 ls) = true then .nx [some (kv n0 ls), a, z', x, y] h else .exc ⟨IS, []⟩ [some (kv n0 ls), a, z', x, y] h
  | [], z, _ => ⟨z, by simp [forL, hs]⟩
  | p :: L, z, q => by
    have e := q p (List.mem_cons_self ..)
    cases hp : p.fits n0 ls with
    | false =>
      rw [hp] at e
      simp only [Bool.false_eq_true, if_false] at e
      exact ⟨some p.val, by simp [forL, hs, dVar, e, hp, SRes.andThen, SRes.turn]⟩
    | true =>
      rw [hp] at e
      simp only [if_true] at e
      obtain ⟨z', ih⟩ := parts_loop (Γ := Γ) (a := a) (x := x) (y := y) hs L (some p.val) fun r hr => q r (List.mem_cons_of_mem _ hr)
      refine ⟨z', ?_⟩
      simp only [List.map_cons, forL, if_pos hs, e_name, List.set_cons_succ, List.set_cons_zero]
      have e3 : sSeq (sExpr (dCall (Γ 5) (dCons (dVar 0) (dCons (dVar 2) dNil)))) sNext [some (kv n0 ls), a, some p.val, x, y] h = .nx [some (kv n0 ls), a, some p.val, x, y] h := by
        simp [dVar, e]
      rw [e3]
      show (SRes.nx _ _).turn _ = _
      simp only [SRes.turn, ih, List.all_cons, hp, Bool.true_and]
theorem parts_a {n0 : Int} {ls : List Tx} (ols : TxOk ls) : ∀ (n : Nat) {f : Fm}, f.ht ≤ n → f.good → ∀ {k : Nat} {h : Hv}, lev D (k + n + 3) 5 [kv n0 ls, f.val] h = if f.fits n0 ls = true then .ok .non h else .exc ⟨IS, []⟩ h := by
  intro n
  induction n using Nat.strongRecOn with
  | _ n ih =>
    intro f hf g k h
    have hrec : ∀ p ∈ f.subs, lev D (k + n + 2) 5 [kv n0 ls, p.val] h = if p.fits n0 ls = true then .ok .non h else .exc ⟨IS, []⟩ h := fun p hp => by
      obtain ⟨g1, g2⟩ := sub_good g hp
      have := ih p.ht (by omega) (Nat.le_refl _) g1 (k := k + n - 1 - p.ht) (h := h)
      rw [show k + n - 1 - p.ht + p.ht + 3 = k + n + 2 by omega] at this
      exact this
    show runDef 5 (b_check_parts (lev D (k + n + 2))) [kv n0 ls, f.val] h = _
    have c1 : ∀ l : GH.Loc, l[1]? = some (some f.val) → l[4]? = some (some (.tup (ls.map .str))) → dAnd (dB (dBin vEq (dBin vIx (dVar 1) (dC (.int 0))) (dC (.str [108, 97, 98, 101, 108])))) (dB (dBin vNotIn (dBin vIx (dVar 1) (dC (.int 1))) (dVar 4))) l h = .ok (match f with | .lab a _ => !decide (a ∈ ls) | _ => false) h := by
      intro l h1 h4
      cases f with
      | lab a x => simp [dVar, h1, h4, Fm.val, tLabel, vNotIn_tupTxt g.1 ols]
      | chi i x y => simp [dVar, h1, Fm.val, tChild]
      | «at» w ns =>
        have q1 : w ≠ [108, 97, 98, 101, 108] := (W6_ne w g.1).1
        simp [dVar, h1, Fm.val, q1]
      | not f => simp [dVar, h1, Fm.val, tNot]
      | bin b f f' => cases b <;> simp [dVar, h1, Fm.val, tBin]
      | q b x f => cases b <;> simp [dVar, h1, Fm.val, tQ]
    have c2 : ∀ l : GH.Loc, l[1]? = some (some f.val) → l[3]? = some (some (.int n0)) → dAnd (dB (dBin vEq (dBin vIx (dVar 1) (dC (.int 0))) (dC (.str [99, 104, 105, 108, 100])))) (dB (dBin vGe (dBin vIx (dVar 1) (dC (.int 1))) (dVar 3))) l h = .ok (match f with | .chi i _ _ => decide (n0 ≤ i) | _ => false) h := by
      intro l h1 h4
      cases f with
      | lab a x => simp [dVar, h1, Fm.val, tLabel]
      | chi i x y => simp [dVar, h1, h4, Fm.val, tChild]
      | «at» w ns =>
        have q1 : w ≠ [99, 104, 105, 108, 100] := (W6_ne w g.1).2.1
        simp [dVar, h1, Fm.val, q1]
      | not f => simp [dVar, h1, Fm.val, tNot]
      | bin b f f' => cases b <;> simp [dVar, h1, Fm.val, tBin]
      | q b x f => cases b <;> simp [dVar, h1, Fm.val, tQ]
    have c3 : ∀ l : GH.Loc, l[1]? = some (some f.val) → dB (dBin vGt (dLen (dCall (lev D (k + n + 2) 3) (dCons (dVar 1) dNil))) (dC (.int 6))) l h = .ok (decide (6 < f.fv.length)) h := by
      intro l h1
      simp [dVar, h1, free_a n hf g, srt_len]
      omega
    obtain ⟨z', lp⟩ := parts_loop (Γ := lev D (k + n + 2)) (a := some f.val) (x := some (.int n0)) (y := some (.tup (ls.map .str))) (s := (f.subs.map Fm.val, none)) (srcOk_none _ h) f.subs none hrec
    have run : b_check_parts (lev D (k + n + 2)) [some (kv n0 ls), some f.val, none, none, none] h = if f.fits n0 ls = true then .nx [some (kv n0 ls), some f.val, z', some (.int n0), some (.tup (ls.map .str))] h else (if (okh n0 ls f && decide (f.fv.length ≤ 6)) = true then .exc ⟨IS, []⟩ [some (kv n0 ls), some f.val, z', some (.int n0), some (.tup (ls.map .str))] h else .exc ⟨IS, []⟩ [some (kv n0 ls), some f.val, none, some (.int n0), some (.tup (ls.map .str))] h) := by
      unfold b_check_parts
      rw [asg_eq (l1 := [some (kv n0 ls), some f.val, none, some (.int n0), some (.tup (ls.map .str))]) (h1 := h) (v := kv n0 ls) (by simp [dVar]) (by simp [gTup, gsCons, gsNil])]
      rw [raise_if (c1 _ rfl rfl), raise_if (c2 _ rfl rfl), raise_if (c3 _ rfl)]
      have lp2 : (sSeq (sFor (iSeq (dCall (lev D (k + n + 2) 2) (dCons (dVar 1) dNil))) (gName 2) (sSeq (sExpr (dCall (lev D (k + n + 2) 5) (dCons (dVar 0) (dCons (dVar 2) dNil)))) sNext)) sNext) [some (kv n0 ls), some f.val, none, some (.int n0), some (.tup (ls.map .str))] h = if f.subs.all (Fm.fits n0 ls) = true then .nx [some (kv n0 ls), some f.val, z', some (.int n0), some (.tup (ls.map .str))] h else .exc ⟨IS, []⟩ [some (kv n0 ls), some f.val, z', some (.int n0), some (.tup (ls.map .str))] h := by
        rw [e_seq, e_for]
        simp only [e_iseq, e_call, e_cons, e_nil, dVar, List.getElem?_cons_succ, List.getElem?_cons_zero, Res.bind_ok, inner_a g, vIter_lst, Res.to_ok, lp]
        split <;> rfl
      rw [lp2]
      have hfit := fits_eq n0 ls f
      by_cases hl : f.fv.length ≤ 6
      · have hl2 : ¬ 6 < f.fv.length := by omega
        cases f with
        | lab a x => by_cases ha : a ∈ ls <;> simp [hfit, okh, hl, hl2, ha, IS, Fm.subs]
        | chi i x y =>
          by_cases hi : i < n0
          · have : ¬ n0 ≤ i := by omega
            simp [hfit, okh, hl, hl2, hi, this, IS, Fm.subs]
          · have : n0 ≤ i := by omega
            simp [hfit, okh, hl, hl2, hi, this, IS, Fm.subs]
        | _ => simp [hfit, okh, hl, hl2, IS]
      · have hl2 : 6 < f.fv.length := by omega
        cases f with
        | lab a x => by_cases ha : a ∈ ls <;> simp [hfit, okh, hl, hl2, ha, IS]
        | chi i x y =>
          by_cases hi : i < n0
          · have : ¬ n0 ≤ i := by omega
            simp [hfit, okh, hl, hl2, hi, this, IS]
          · have : n0 ≤ i := by omega
            simp [hfit, okh, hl, hl2, hi, this, IS]
        | _ => simp [hfit, okh, hl, hl2, IS]
    unfold runDef
    simp only [List.map_cons, List.map_nil, List.length_cons, List.length_nil, List.cons_append, List.nil_append, List.replicate, run]
    cases f.fits n0 ls <;> cases (okh n0 ls f && decide (f.fv.length ≤ 6)) <;> rfl
end L03
set_option Elab.async false
set_option linter.all false
set_option maxRecDepth 100000
set_option maxHeartbeats 1000000
set_option autoImplicit false
namespace L03
open GH PySem
structure KOk (n : Int) (ls : List Tx) : Prop where
  n : n = 1 ∨ n = 2
  l : ls = [[97]] ∨ ls = [[97], [98]] ∨ ls = [[98], [100], [122]]
theorem KOk.tx {n : Int} {ls : List Tx} (q : KOk n ls) : TxOk ls := by
  rcases q.l with rfl | rfl | rfl <;> decide +kernel
theorem kind_a {n : Int} {ls : List Tx} (q : KOk n ls) {k : Nat} {h : Hv} : lev D (k + 1) 0 [kv n ls] h = .ok .non h := by
  have hn : vNotIn (.int n) (.tup [.int 1, .int 2]) h = .ok (.bl false) h := by
    rcases q.n with rfl | rfl <;> rfl
  have hv : vSortSet (.tup (ls.map .str)) h = .ok (.lst (ls.map .str)) h := by
    have nd : ls.Nodup := by rcases q.l with rfl | rfl | rfl <;> decide
    have si : srt ls = ls := srt_id (by rcases q.l with rfl | rfl | rfl <;> decide +kernel)
    have := vSortSet_txt (L := ls) (M := ls) (v := .tup (ls.map .str)) (h := h) rfl (by rcases q.l with rfl | rfl | rfl <;> decide) nd fun x => Iff.rfl
    rwa [si] at this
  have hl : 1 ≤ ls.length ∧ ls.length ≤ 3 := by rcases q.l with rfl | rfl | rfl <;> decide
  have h1 : ((ls.length : Nat) : Int) ≤ 3 := by omega
  have h2 : (1 : Int) ≤ ((ls.length : Nat) : Int) := by omega
  have hne : vNe (.lst (ls.map .str)) (.lst (ls.map .str)) h = .ok (.bl false) h := by
    rcases q.l with rfl | rfl | rfl <;> rfl
  have hin : ∀ x ∈ ls, x.length = 1 ∧ vIn (.str x) (.str [97, 98, 99, 100, 101, 102, 103, 104, 105, 106, 107, 108, 109, 110, 111, 112, 113, 114, 115, 116, 117, 118, 119, 120, 121, 122]) h = .ok (.bl true) h := by
    rcases q.l with rfl | rfl | rfl <;> simp <;> (repeat' constructor)
  refine eq_of ?_
  show ok (runDef 4 (b_check_kind (lev D k)) [kv n ls] h) _
  rw [ok_run]
  refine sok_seqo (fun l h' => l = [some (kv n ls), some (.int n), some (.tup (ls.map .str)), none] ∧ h' = h) (fun R' hR => ?_) ?_
  · simp [dVar, gTup, gsCons, gsNil]
    exact hR _ _ ⟨rfl, rfl⟩
  rintro l h' ⟨rfl, e⟩
  rw [e]
  refine if_ (c := false) (h := h) ?_ (fun z => by cases z) fun _ => ?_
  · simp [dVar, mkT_ok, hn, h1, h2, vList, seqOf, hv, hne]
  refine if_ (c := false) (h := h) ?_ (fun z => by cases z) fun _ => ?_
  · simp only [e_not, e_tru, e_fn, dLc, e_iseq, dVar, List.getElem?_cons_succ, List.getElem?_cons_zero, Res.bind_ok, vIter_tup]
    rw [lcL_mapL Val.str (fun _ => .bl true) (srcOk_none _ _) ls [] fun x hx => ⟨_, rfl, by
      have hlen : vLen (.str x) h = .ok (.int 1) h := by simp [vLen, (hin x hx).1, lineN]
      simp [wipeL, dVar, hlen, (hin x hx).2]⟩]
    simp only [List.nil_append, frozen, Res.bind_ok]
    rw [show ls.map (fun _ => Val.bl true) = (ls.map fun _ => true).map Val.bl by simp, vAll_bls]
    simp
  · simp
section
variable {n : Nat} {b : Stm} {args : List Val} {h h1 : Hv} {l' : GH.Loc}
theorem run_nx (e : b (args.map some ++ List.replicate (n - args.length) none) h = .nx l' h1) : runDef n b args h = .ok .non h1 := by simp only [runDef, e]
theorem run_rt {v : Val} (e : b (args.map some ++ List.replicate (n - args.length) none) h = .rt v h1) : runDef n b args h = .ok v h1 := by simp only [runDef, e]
theorem run_exc {x : Ex} (e : b (args.map some ++ List.replicate (n - args.length) none) h = .exc x l' h1) : runDef n b args h = .exc x h1 := by simp only [runDef, e]
end
def cf (n : Int) (ls : List Tx) (f : Fm) : Bool := decide (f.dep ≤ 40) && f.fits n ls
def cs (n : Int) (ls : List Tx) (f : Fm) : Bool := cf n ls f && f.fv.isEmpty
theorem expr_eq {d : Den} {rest : Stm} {l : GH.Loc} {h h1 : Hv} {v : Val} (e : d l h = .ok v h1) : sSeq (sExpr d) rest l h = rest l h1 := by
  rw [e_seq, e_expr, e]
  rfl
theorem expr_ex {d : Den} {rest : Stm} {l : GH.Loc} {h h1 : Hv} {x : Ex} (e : d l h = .exc x h1) : sSeq (sExpr d) rest l h = .exc x l h1 := by
  rw [e_seq, e_expr, e]
  rfl
theorem formula_a {n0 : Int} {ls : List Tx} (q : KOk n0 ls) {n : Nat} {f : Fm} (hf : f.ht ≤ n) (g : f.good) {k : Nat} {h : Hv} : lev D (k + n + 4) 6 [kv n0 ls, f.val] h = if cf n0 ls f = true then .ok .non h else .exc ⟨IS, []⟩ h := by
  show runDef 2 (b_check_formula (lev D (k + n + 3))) [kv n0 ls, f.val] h = _
  have e1 : lev D (k + n + 3) 0 [kv n0 ls] h = .ok .non h := kind_a q (k := k + n + 2)
  have e2 : lev D (k + n + 3) 4 [f.val] h = .ok (.int f.dep) h := by
    have := dep_a n hf g (k := k + 1) (h := h)
    rwa [show k + 1 + n + 2 = k + n + 3 by omega] at this
  have e3 : lev D (k + n + 3) 5 [kv n0 ls, f.val] h = _ := parts_a q.tx n hf g (k := k) (h := h)
  have c1 : dB (dBin vGt (dCall (lev D (k + n + 3) 4) (dCons (dVar 1) dNil)) (dC (.int 40))) [some (kv n0 ls), some f.val] h = .ok (decide (40 < f.dep)) h := by
    simp [dVar, e2]
    omega
  have run : b_check_formula (lev D (k + n + 3)) [some (kv n0 ls), some f.val] h = if cf n0 ls f = true then .nx [some (kv n0 ls), some f.val] h else .exc ⟨IS, []⟩ [some (kv n0 ls), some f.val] h := by
    unfold b_check_formula
    rw [expr_eq (h1 := h) (v := .non) (by simp [dVar, e1]), raise_if c1]
    by_cases hd : f.dep ≤ 40
    · have hd2 : ¬ 40 < f.dep := by omega
      cases hfit : f.fits n0 ls with
      | true =>
        rw [hfit] at e3
        rw [expr_eq (h1 := h) (v := .non) (by simp [dVar, e3])]
        simp [cf, hd, hd2, hfit]
      | false =>
        rw [hfit] at e3
        rw [expr_ex (h1 := h) (x := ⟨IS, []⟩) (by simp [dVar, e3])]
        simp [cf, hd, hd2, hfit]
    · have hd2 : 40 < f.dep := by omega
      simp [cf, hd, hd2, IS]
  cases hz : cf n0 ls f with
  | true => rw [hz] at run; exact run_nx run
  | false => rw [hz] at run; exact run_exc run
theorem sentence_a {n0 : Int} {ls : List Tx} (q : KOk n0 ls) {n : Nat} {f : Fm} (hf : f.ht ≤ n) (g : f.good) {k : Nat} {h : Hv} : lev D (k + n + 5) 7 [kv n0 ls, f.val] h = if cs n0 ls f = true then .ok .non h else .exc ⟨IS, []⟩ h := by
  show runDef 2 (b_check_sentence (lev D (k + n + 4))) [kv n0 ls, f.val] h = _
  have e1 : lev D (k + n + 4) 6 [kv n0 ls, f.val] h = _ := formula_a q hf g
  have e2 : lev D (k + n + 4) 3 [f.val] h = .ok (.lst ((srt f.fv).map .str)) h := by
    have := free_a n hf g (k := k + 2) (h := h)
    rwa [show k + 2 + n + 2 = k + n + 4 by omega] at this
  have hnil : (srt f.fv).isEmpty = f.fv.isEmpty := by
    cases hfv : f.fv with
    | nil => rw [srt_nil]
    | cons a l =>
      cases hs : srt (a :: l) with
      | nil =>
        have := srt_len (a :: l)
        rw [hs] at this
        cases this
      | cons => rfl
  have c1 : dTru (dCall (lev D (k + n + 4) 3) (dCons (dVar 1) dNil)) [some (kv n0 ls), some f.val] h = .ok (!f.fv.isEmpty) h := by
    simp [dVar, e2, vTru, seqOf, lstOf, ← hnil]
  have run : b_check_sentence (lev D (k + n + 4)) [some (kv n0 ls), some f.val] h = if cs n0 ls f = true then .nx [some (kv n0 ls), some f.val] h else .exc ⟨IS, []⟩ [some (kv n0 ls), some f.val] h := by
    unfold b_check_sentence
    cases hc : cf n0 ls f with
    | true =>
      rw [hc] at e1
      rw [expr_eq (h1 := h) (v := .non) (by simp [dVar, e1]), raise_if c1]
      cases he : f.fv.isEmpty <;> simp [cs, hc, he, IS]
    | false =>
      rw [hc] at e1
      rw [expr_ex (h1 := h) (x := ⟨IS, []⟩) (by simp [dVar, e1])]
      simp [cs, hc]
  cases hz : cs n0 ls f with
  | true => rw [hz] at run; exact run_nx run
  | false => rw [hz] at run; exact run_exc run
abbrev yn (b : Bool) : Val := .str (if b then [121, 101, 115] else [110, 111])
theorem told_a {n0 : Int} {ls : List Tx} (q : KOk n0 ls) {n : Nat} {f : Fm} (hf : f.ht ≤ n) (g : f.good) (c : Bool) {k : Nat} {h : Hv} : lev D (k + n + 6) 20 [kv n0 ls, f.val, .bl c] h = .ok (yn (if c then cs n0 ls f else cf n0 ls f)) h := by
  show runDef 5 (b__law_told (lev D (k + n + 5))) [kv n0 ls, f.val, .bl c] h = _
  have e1 : lev D (k + n + 5) 6 [kv n0 ls, f.val] h = if cf n0 ls f = true then .ok .non h else .exc ⟨IS, []⟩ h := by
    have := formula_a q hf g (k := k + 1) (h := h)
    rwa [show k + 1 + n + 4 = k + n + 5 by omega] at this
  have e2 : lev D (k + n + 5) 7 [kv n0 ls, f.val] h = if cs n0 ls f = true then .ok .non h else .exc ⟨IS, []⟩ h := sentence_a q hf g
  have hd : dIf (dTru (dVar 2)) (dCall (lev D (k + n + 5) 7) (dCons (dVar 0) (dCons (dVar 1) dNil))) (dCall (lev D (k + n + 5) 6) (dCons (dVar 0) (dCons (dVar 1) dNil))) [some (kv n0 ls), some f.val, some (.bl c), none, none] h = if (if c then cs n0 ls f else cf n0 ls f) = true then .ok .non h else .exc ⟨IS, []⟩ h := by
    cases c <;> simp [dVar, e1, e2]
  have run : b__law_told (lev D (k + n + 5)) [some (kv n0 ls), some f.val, some (.bl c), none, none] h = .rt (yn (if c then cs n0 ls f else cf n0 ls f)) h := by
    unfold b__law_told
    rw [e_seq]
    cases hb : (if c then cs n0 ls f else cf n0 ls f) with
    | true =>
      rw [hb] at hd
      simp only [if_true] at hd
      simp only [sTryIs, e_seq, e_asg, hd, Res.to_ok, e_name, TRes.s_ok, SRes.andThen_nx, e_next, List.set_cons_succ, List.set_cons_zero]
      simp [dVar, vIsN, isNon, yn]
    | false =>
      rw [hb] at hd
      simp only [Bool.false_eq_true, if_false] at hd
      simp only [sTryIs, e_seq, e_asg, hd, Res.to_exc, SRes.andThen_exc]
      simp [IS, yn]
  exact run_rt run
end L03
set_option Elab.async false
set_option linter.all false
set_option maxRecDepth 100000
set_option maxHeartbeats 1000000
set_option autoImplicit false
namespace L03
open GH PySem
abbrev InU (L : List Tx) : Prop := ∀ x ∈ L, x ∈ U
theorem eq_nl {L : List Tx} {h : Hv} (o : InU L) : vEq (.lst (L.map .str)) (.lst []) h = .ok (.bl L.isEmpty) h ∧ vNe (.lst (L.map .str)) (.lst []) h = .ok (.bl (!L.isEmpty)) h := by
  have q := vEq_lnil (L.map .str) (okVs_txt fun x hx => U_ok x (o x hx)) h
  simpa using q
theorem pick {k : Nat} {o : Ob} {g : Hv} {L : List Tx} {Q : Val → Hv → Prop} (ho : TapeOb o) (hL : L ≠ []) (hl : L.length ≤ 1000) (z : ∀ x ∈ L, ∀ o', TapeOb o' → Q (.str x) (o' :: g)) :
    ok (lev D (k + 1) 9 [.ref 0, .int L.length] (o :: g)) fun v h => ok (vIx (.lst (L.map .str)) v h) Q := by
  have : 0 < L.length := List.length_pos_iff.mpr hL
  refine take_l ho (by omega) (by omega) fun r o' h0 h1 ho' => ?_
  obtain ⟨v, e1, e2⟩ := nth_of (l := L.map Val.str) h0 (by simpa using h1)
  obtain ⟨x, hx, rfl⟩ := List.mem_map.mp e2
  rw [vIx_lst e1]
  exact z x hx o' ho'
theorem pickT {k : Nat} {o : Ob} {g : Hv} {L : List Tx} {Q : Val → Hv → Prop} (ho : TapeOb o) (hL : L ≠ []) (hl : L.length ≤ 1000) (z : ∀ x ∈ L, ∀ o', TapeOb o' → Q (.str x) (o' :: g)) :
    ok (lev D (k + 1) 9 [.ref 0, .int L.length] (o :: g)) fun v h => ok (vIx (.tup (L.map .str)) v h) Q := by
  have : 0 < L.length := List.length_pos_iff.mpr hL
  refine take_l ho (by omega) (by omega) fun r o' h0 h1 ho' => ?_
  obtain ⟨v, e1, e2⟩ := nth_of (l := L.map Val.str) h0 (by simpa using h1)
  obtain ⟨x, hx, rfl⟩ := List.mem_map.mp e2
  rw [vIx_tup e1]
  exact z x hx o' ho'
abbrev tq (m : Int) (g : Hv) : Val → Hv → Prop := fun v h => ∃ r o', 0 ≤ r ∧ r < m ∧ TapeOb o' ∧ v = .int r ∧ h = o' :: g
abbrev pq (L : List Tx) (g : Hv) : Val → Hv → Prop := fun v h => ∃ x o', x ∈ L ∧ TapeOb o' ∧ v = .str x ∧ h = o' :: g
theorem take_q {k : Nat} {m : Int} {o : Ob} {g : Hv} (ho : TapeOb o) (hm : 0 < m) (hm2 : m < 1073741824) : ok (lev D (k + 1) 9 [.ref 0, .int m] (o :: g)) (tq m g) :=
  take_l ho hm hm2 fun r o' h0 h1 ho' => ⟨r, o', h0, h1, ho', rfl, rfl⟩
theorem gen_atom {k : Nat} {o : Ob} {g : Hv} {n : Int} {ls : List Tx} {S T : List Tx} {P : Val → Hv → Prop} (ho : TapeOb o) (kk : KOk n ls) (hS : InU S) (hT : InU T) (hSl : S.length ≤ 1000) (hTl : T.length ≤ 1000)
    (z : ∀ (f : Fm) o', f.good → f.ht = 0 → TapeOb o' → P f.val (o' :: g)) : ok (lev D (k + 2) 14 [.ref 0, .tup [.int n, .tup (ls.map .str)], .lst (S.map .str), .lst (T.map .str)] (o :: g)) P := by
  have hn := kk.n
  have hl : ls ≠ [] := by rcases kk.l with rfl | rfl | rfl <;> simp
  have hl3 : ls.length ≤ 3 := by rcases kk.l with rfl | rfl | rfl <;> simp
  show ok (runDef 7 (b__law_atom (lev D (k + 1))) [.ref 0, .tup [.int n, .tup (ls.map .str)], .lst (S.map .str), .lst (T.map .str)] (o :: g)) P
  rw [ok_run]; unfold b__law_atom
  refine asgq_ (tq 12 g) (by simp only [e_call, e_cons, dVar, e_c, e_nil, List.getElem?_cons_zero, List.map_cons, List.cons_append, Res.bind_ok]; exact take_q ho (by omega) (by omega)) ?_
  rintro v h ⟨r, o1, h0, h1, ho1, rfl, rfl⟩
  simp only [List.map_cons, List.map_nil, List.length_cons, List.length_nil, List.cons_append, List.nil_append, List.replicate, List.set_cons_succ, List.set_cons_zero]
  by_cases c1 : T.isEmpty = false ∧ (r < 4 ∨ S.isEmpty = true)
  · have hTn : T ≠ [] := by rintro rfl; cases c1.1
    refine if_ (c := true) ?_ (fun _ => ?_) (fun z => by cases z)
    · have e1 := (eq_nl (h := o1 :: g) hT).2
      have e2 := (eq_nl (h := o1 :: g) hS).1
      by_cases c2 : r < 4
      · simp [dVar, mkL_ok, e1, c1.1, c2]
      · have c3 := c1.2.resolve_left c2
        simp [dVar, mkL_ok, e1, e2, c1.1, c2, c3]
    by_cases c2 : S.isEmpty = true ∨ r = 0
    · refine if_ (c := true) ?_ (fun _ => ret_ ?_) (fun z => by cases z)
      · have e2 := (eq_nl (h := o1 :: g) hS).1
        by_cases c3 : S.isEmpty = true
        · simp [dVar, mkL_ok, e2, c3]
        · have c4 := c2.resolve_left c3
          simp [dVar, mkL_ok, e2, c3, c4]
      simp [dVar]
      refine pick ho1 hTn hTl fun X hX o2 ho2 => ?_
      refine pick ho2 hTn hTl fun Y hY o3 ho3 => ?_
      rw [mkT_ok (by simp)]
      exact z (.at [105, 110, 115, 105, 100, 101] [X, Y]) o3 ⟨by decide, by simp, (fun e => by cases e), by simpa using ⟨hT X hX, hT Y hY⟩⟩ rfl ho3
    · have c3 : S.isEmpty = false := by cases h : S.isEmpty with
        | true => exact absurd (.inl h) c2
        | false => rfl
      have hSn : S ≠ [] := by rintro rfl; cases c3
      refine if_ (c := false) ?_ (fun z => by cases z) (fun _ => ret_ ?_)
      · have e2 := (eq_nl (h := o1 :: g) hS).1
        have c4 : ¬ r = 0 := fun h => c2 (.inr h)
        simp [dVar, mkL_ok, e2, c3, c4]
      simp [dVar]
      refine pick ho1 hSn hSl fun X hX o2 ho2 => ?_
      refine pick ho2 hTn hTl fun Y hY o3 ho3 => ?_
      rw [mkT_ok (by simp)]
      exact z (.at [105, 110] [X, Y]) o3 ⟨by decide, by simp, (fun e => by cases e), by simpa using ⟨hS X hX, hT Y hY⟩⟩ rfl ho3
  · refine if_ (c := false) ?_ (fun z => by cases z) (fun _ => ?_)
    · have e1 := (eq_nl (h := o1 :: g) hT).2
      have e2 := (eq_nl (h := o1 :: g) hS).1
      cases c2 : T.isEmpty with
      | true => simp [dVar, mkL_ok, e1, c2]
      | false =>
        have c3 : ¬ r < 4 := fun h => c1 ⟨c2, .inl h⟩
        have c4 : S.isEmpty = false := by cases h : S.isEmpty with
          | true => exact absurd ⟨c2, .inr h⟩ c1
          | false => rfl
        simp [dVar, mkL_ok, e1, e2, c2, c3, c4]
    by_cases c2 : S.isEmpty = true
    · refine if_ (c := true) ?_ (fun _ => ret_ ?_) (fun z => by cases z)
      · simp [dVar, mkL_ok, (eq_nl (h := o1 :: g) hS).1, c2]
      simp [dVar, mkT_ok]
      exact z (.at tTrue []) o1 ⟨by decide, by simp, (fun e => rfl), by simp⟩ rfl ho1
    have c3 : S.isEmpty = false := by simpa using c2
    have hSn : S ≠ [] := by rintro rfl; cases c3
    refine if_ (c := false) ?_ (fun z => by cases z) (fun _ => ?_)
    · simp [dVar, mkL_ok, (eq_nl (h := o1 :: g) hS).1, c3]
    refine asgq_ (pq S g) (by simp [dVar]; exact pick ho1 hSn hSl fun x hx o2 ho2 => ⟨x, o2, hx, ho2, rfl, rfl⟩) ?_
    rintro v h ⟨x, o2, hx, ho2, rfl, rfl⟩
    refine asgq_ (pq S g) (by simp [dVar]; exact pick ho2 hSn hSl fun x hx o2 ho2 => ⟨x, o2, hx, ho2, rfl, rfl⟩) ?_
    rintro v h ⟨y, o3, hy, ho3, rfl, rfl⟩
    simp only [List.set_cons_succ, List.set_cons_zero]
    by_cases c4 : r < 7
    · refine if_ (c := true) (by simp [dVar, c4]) (fun _ => ret_ ?_) (fun z => by cases z)
      simp [dVar]
      refine pickT ho3 hl (by omega) fun a ha o4 ho4 => ?_
      simp [mkT_ok]
      exact z (.lab a x) o4 ⟨kk.tx a ha, hS x hx⟩ rfl ho4
    refine if_ (c := false) (by simp [dVar, c4]) (fun z => by cases z) (fun _ => ?_)
    by_cases c5 : r = 7
    · refine if_ (c := true) (by simp [dVar, c5]) (fun _ => ret_ ?_) (fun z => by cases z)
      simp [dVar, mkT_ok]
      exact z (.at [116, 111, 112] [x]) o3 ⟨by decide, by simp, (fun e => by cases e), by simpa using hS x hx⟩ rfl ho3
    refine if_ (c := false) (by simp [dVar, c5]) (fun z => by cases z) (fun _ => ?_)
    by_cases c6 : r = 8
    · refine if_ (c := true) (by simp [dVar, c6]) (fun _ => ret_ ?_) (fun z => by cases z)
      simp [dVar, mkT_ok]
      exact z (.at [115, 97, 109, 101] [x, y]) o3 ⟨by decide, by simp, (fun e => by cases e), by simpa using ⟨hS x hx, hS y hy⟩⟩ rfl ho3
    refine if_ (c := false) (by simp [dVar, c6]) (fun z => by cases z) (fun _ => ret_ ?_)
    by_cases c7 : r < 11
    · simp [dVar, c7]
      refine take_l ho3 (by omega) (by omega) fun i o4 _ _ ho4 => ?_
      simp [mkT_ok]
      exact z (.chi i x y) o4 ⟨hS x hx, hS y hy⟩ rfl ho4
    · simp [dVar, c7, mkT_ok]
      exact z (.at [98, 101, 108, 111, 119] [x, y]) o3 ⟨by decide, by simp, (fun e => by cases e), by simpa using ⟨hS x hx, hS y hy⟩⟩ rfl ho3
theorem gen_matrix : ∀ (d : Nat) {k : Nat} {o : Ob} {g : Hv} {n : Int} {ls : List Tx} {S T : List Tx} {P : Val → Hv → Prop}, TapeOb o → KOk n ls → InU S → InU T → S.length + d ≤ 900 → T.length ≤ 900 →
    (∀ (f : Fm) o', f.good → f.ht ≤ d → TapeOb o' → P f.val (o' :: g)) → ok (lev D (k + d + 3) 15 [.ref 0, .tup [.int n, .tup (ls.map .str)], .lst (S.map .str), .lst (T.map .str), .int d] (o :: g)) P := by
  intro d
  induction d with
  | zero =>
    intro k o g n ls S T P ho kk hS hT hSl hTl z
    show ok (runDef 9 (b__law_matrix (lev D (k + 0 + 2))) [.ref 0, .tup [.int n, .tup (ls.map .str)], .lst (S.map .str), .lst (T.map .str), .int 0] (o :: g)) P
    rw [ok_run]; unfold b__law_matrix
    refine asgq_ (fun v h => v = .int 0 ∧ h = o :: g) (by simp [dVar]) ?_
    rintro v h ⟨rfl, rfl⟩
    refine if_ (c := true) (by simp [dVar]) (fun _ => ret_ ?_) (fun z => by cases z)
    simp [dVar]
    exact gen_atom ho kk hS hT (by omega) (by omega) fun f o' w e ho' => z f o' w (by omega) ho'
  | succ d ih =>
    intro k o g n ls S T P ho kk hS hT hSl hTl z
    have ed : ((d + 1 : Nat) : Int) - 1 = (d : Nat) := by omega
    show ok (runDef 9 (b__law_matrix (lev D (k + d + 3))) [.ref 0, .tup [.int n, .tup (ls.map .str)], .lst (S.map .str), .lst (T.map .str), .int (d + 1 : Nat)] (o :: g)) P
    rw [ok_run]; unfold b__law_matrix
    refine asgq_ (tq 8 g) ?_ ?_
    · simp only [e_dif, e_b, e_bin, dVar, List.getElem?_cons_succ, List.getElem?_cons_zero, List.map_cons, List.map_nil, List.cons_append, Res.bind_ok, e_c, vGt_int, resB_bl]
      rw [show decide ((0 : Int) < ((d + 1 : Nat) : Int)) = true from decide_eq_true (by omega)]
      simp only [if_true, e_call, e_cons, dVar, List.getElem?_cons_zero, Res.bind_ok, e_c, e_nil]
      exact take_q ho (by omega) (by omega)
    rintro v h ⟨r, o1, h0, h1, ho1, rfl, rfl⟩
    simp only [List.map_cons, List.map_nil, List.length_cons, List.length_nil, List.cons_append, List.nil_append, List.replicate, List.set_cons_succ, List.set_cons_zero]
    by_cases c1 : r < 3
    · refine if_ (c := true) (by simp [dVar, c1]) (fun _ => ret_ ?_) (fun z => by cases z)
      simp [dVar]
      exact gen_atom ho1 kk hS hT (by omega) (by omega) fun f o' w e ho' => z f o' w (by omega) ho'
    refine if_ (c := false) (by simp [dVar, c1]) (fun z => by cases z) (fun _ => ?_)
    by_cases c2 : r = 3
    · refine if_ (c := true) (by simp [dVar, c2]) (fun _ => ret_ ?_) (fun z => by cases z)
      simp [dVar, ed]
      refine ih ho1 kk hS hT (by omega) hTl fun f o2 w e ho2 => ?_
      rw [mkT_ok (by simp)]
      exact z (.not f) o2 w (by simp [Fm.ht]; omega) ho2
    refine if_ (c := false) (by simp [dVar, c2]) (fun z => by cases z) (fun _ => ?_)
    by_cases c3 : r < 7
    · refine if_ (c := true) (by simp [dVar, c3]) (fun _ => ?_) (fun z => by cases z)
      refine asgq_ (fun v h => ∃ (b : Bool) (o' : Ob), TapeOb o' ∧ v = .str (if b then [97, 110, 100] else [111, 114]) ∧ h = o' :: g) ?_ ?_
      · simp [dVar, mkL_ok]
        refine take_l ho1 (by omega) (by omega) fun q o2 q0 q1 ho2 => ?_
        obtain rfl | rfl : q = 0 ∨ q = 1 := by omega
        · rw [vIx_lst (v := .str [97, 110, 100]) rfl]; exact .inr ⟨o2, ho2, rfl, rfl⟩
        · rw [vIx_lst (v := .str [111, 114]) rfl]; exact .inl ⟨o2, ho2, rfl, rfl⟩
      rintro v h ⟨b, o2, ho2, rfl, rfl⟩
      refine asgq_ (fun v h => ∃ (f : Fm) (o' : Ob), f.good ∧ f.ht ≤ d ∧ TapeOb o' ∧ v = f.val ∧ h = o' :: g) ?_ ?_
      · simp [dVar, ed]
        exact ih ho2 kk hS hT (by omega) hTl fun f o3 w e ho3 => ⟨f, w, e, o3, ho3, rfl, rfl⟩
      rintro v h ⟨f1, o3, w1, e1, ho3, rfl, rfl⟩
      refine ret_ ?_
      simp [dVar, ed]
      refine ih ho3 kk hS hT (by omega) hTl fun f2 o4 w2 e2 ho4 => ?_
      rw [mkT_ok (by simp)]
      cases b with
      | true => exact z (.bin true f1 f2) o4 ⟨w1, w2⟩ (by simp [Fm.ht]; omega) ho4
      | false => exact z (.bin false f1 f2) o4 ⟨w1, w2⟩ (by simp [Fm.ht]; omega) ho4
    refine if_ (c := false) (by simp [dVar, c3]) (fun z => by cases z) (fun _ => ?_)
    refine asgq_ (fun v h => ∃ (b : Bool) (o' : Ob), TapeOb o' ∧ v = .str (if b then [115, 111, 109, 101] else [97, 108, 108]) ∧ h = o' :: g) ?_ ?_
    · simp [dVar, mkL_ok]
      refine take_l ho1 (by omega) (by omega) fun q o2 q0 q1 ho2 => ?_
      obtain rfl | rfl : q = 0 ∨ q = 1 := by omega
      · rw [vIx_lst (v := .str [115, 111, 109, 101]) rfl]; exact .inr ⟨o2, ho2, rfl, rfl⟩
      · rw [vIx_lst (v := .str [97, 108, 108]) rfl]; exact .inl ⟨o2, ho2, rfl, rfl⟩
    rintro v h ⟨b, o2, ho2, rfl, rfl⟩
    refine asgq_ (fun v h => ∃ x o', x ∈ U ∧ TapeOb o' ∧ v = .str x ∧ h = o' :: g) ?_ ?_
    · simp [dVar, mkL_ok]
      refine take_l ho2 (by omega) (by omega) fun q o3 q0 q1 ho3 => ?_
      obtain rfl | rfl | rfl : q = 0 ∨ q = 1 ∨ q = 2 := by omega
      · rw [vIx_lst (v := .str [120]) rfl]; exact ⟨[120], by decide, o3, ho3, rfl, rfl⟩
      · rw [vIx_lst (v := .str [121]) rfl]; exact ⟨[121], by decide, o3, ho3, rfl, rfl⟩
      · rw [vIx_lst (v := .str [122]) rfl]; exact ⟨[122], by decide, o3, ho3, rfl, rfl⟩
    rintro v h ⟨x, o3, hx, ho3, rfl, rfl⟩
    refine ret_ ?_
    simp [dVar, ed, mkL_ok]
    rw [add_lst (by simp; omega)]
    simp [dVar, ed]
    rw [show S.map Val.str ++ [.str x] = (S ++ [x]).map .str by simp]
    refine ih ho3 kk (fun y hy => ?_) hT (by simp; omega) hTl fun f o4 w e ho4 => ?_
    · rcases List.mem_append.mp hy with hy | hy
      · exact hS y hy
      · rw [List.mem_singleton.mp hy]; exact hx
    · rw [mkT_ok (by simp)]
      exact z (.q b x f) o4 ⟨hx, w⟩ (by simp [Fm.ht]; omega) ho4
end L03
set_option Elab.async false
set_option linter.all false
set_option maxRecDepth 100000
set_option maxHeartbeats 1000000
set_option autoImplicit false
namespace L03
open GH PySem
theorem kind_sp {k : Nat} {o : Ob} {g : Hv} {P : Val → Hv → Prop} (ho : TapeOb o) (kk : ∀ (n : Int) (ls : List Tx) o', KOk n ls → TapeOb o' → P (kv n ls) (o' :: g)) :
    ok (lev D (k + 2) 13 [.ref 0] (o :: g)) P := by
  show ok (runDef 2 (b__law_kind (lev D (k + 1))) [.ref 0] (o :: g)) P
  rw [ok_run]
  refine sok_seqo (fun l h => ∃ (ls : List Tx) (o' : Ob), (ls = [[97]] ∨ ls = [[97], [98]] ∨ ls = [[98], [100], [122]]) ∧ TapeOb o' ∧ l = [some (.ref 0), some (.tup (ls.map .str))] ∧ h = o' :: g) (fun R' hR => ?_) ?_
  · simp [dVar, mkTup, lineN]
    refine take_l ho (by omega) (by omega) fun r o' h0 h1 ho' => ?_
    obtain rfl | rfl | rfl | rfl : r = 0 ∨ r = 1 ∨ r = 2 ∨ r = 3 := by omega
    · rw [vIx_tup (v := .tup [.str [97]]) rfl]; exact hR _ _ ⟨[[97]], o', .inl rfl, ho', rfl, rfl⟩
    · rw [vIx_tup (v := .tup [.str [97], .str [98]]) rfl]; exact hR _ _ ⟨[[97], [98]], o', .inr (.inl rfl), ho', rfl, rfl⟩
    · rw [vIx_tup (v := .tup [.str [97], .str [98]]) rfl]; exact hR _ _ ⟨[[97], [98]], o', .inr (.inl rfl), ho', rfl, rfl⟩
    · rw [vIx_tup (v := .tup [.str [98], .str [100], .str [122]]) rfl]; exact hR _ _ ⟨[[98], [100], [122]], o', .inr (.inr rfl), ho', rfl, rfl⟩
  · rintro l h ⟨ls, o', h1, h3, rfl, rfl⟩
    simp [dVar, mkTup, lineN]
    refine take_l h3 (by omega) (by omega) fun r o'' h0 h4 ho' => ?_
    simp [vDiv_ok _ (show (0 : Int) < 3 by omega) (show (3 : Int) < 1073741824 by omega)]
    exact kk _ ls o'' ⟨by omega, h1⟩ ho'
section
variable {t : DenG Bool} {a b : Stm} {l : GH.Loc} {h h1 : Hv} {Q : Post} {c : Bool}
theorem sif_ (e : t l h = .ok c h1) (z1 : c = true → sok (a l h1) Q) (z2 : c = false → sok (b l h1) Q) : sok (sIf t a b l h) Q := by
  rw [e_if, e]
  cases c with
  | true => simpa using z1 rfl
  | false => simpa using z2 rfl
theorem sifk_ (e : ok (t l h) fun c h1 => (c = true → sok (a l h1) Q) ∧ (c = false → sok (b l h1) Q)) : sok (sIf t a b l h) Q := by
  rw [e_if, sok_to]
  refine ok_imp e fun c h1 z => ?_
  cases c with
  | true => simpa using z.1 rfl
  | false => simpa using z.2 rfl
end
theorem vs_ok (h : Hv) : ∀ j : Nat, j < 8 → vStrI (.int (j : Int)) h = .ok (.str [48 + j]) h := by
  have q : ∀ j : Nat, j < 8 → (Str.ofString (toString (j : Int))).cps.toList = [48 + j] ∧ (j : Int).natAbs.log2 < 1920 := by decide +kernel
  intro j hj
  obtain ⟨a, b⟩ := q j hj
  simp only [vStrI, a, b, if_true]
theorem vnames : ∀ j : Nat, j < 8 → ([118, 48 + j] : Tx) ∈ U := by decide +kernel
/-- where the law stands: the formula in slot 3 -/
def St (s0 : Val) (n0 : Int) (ls : List Tx) (c : Int) (m : Nat) (l : GH.Loc) (h : Hv) : Prop := ∃ (f : Fm) (o : Ob) (g : Hv) (x y : Option Val), f.good ∧ f.ht ≤ m ∧ TapeOb o ∧ l = [some s0, some (.ref 0), some (kv n0 ls), some f.val, some (.int c), none, none, x, y] ∧ h = o :: g
theorem St.mono {s0 : Val} {n0 : Int} {ls : List Tx} {c : Int} {m m' : Nat} {l : GH.Loc} {h : Hv} (s : St s0 n0 ls c m l h) (e : m ≤ m') : St s0 n0 ls c m' l h := by
  obtain ⟨f, o, g, x, y, a, b, r⟩ := s
  exact ⟨f, o, g, x, y, a, by omega, r⟩
theorem cEq {c u : Int} {l : GH.Loc} {h : Hv} (e : l[4]? = some (some (.int c))) : dB (dBin vEq (dVar 4) (dC (.int u))) l h = .ok (decide (c = u)) h := by
  simp [dVar, e]
theorem xU : ([120] : Tx) ∈ U := by decide
theorem yU : ([121] : Tx) ∈ U := by decide
theorem blk0 {Γ : Gam} {s0 : Val} {n0 : Int} {ls : List Tx} {c : Int} {l : GH.Loc} {h : Hv} {Q : Post} (s : St s0 n0 ls c 3 l h) (hq : ∀ l h, St s0 n0 ls c 4 l h → Q.nx l h)
    (tk : ∀ (o : Ob) (g : Hv) (P : Val → Hv → Prop), TapeOb o → (∀ r o', 0 ≤ r → r < 2 → TapeOb o' → P (.int r) (o' :: g)) → ok (Γ 9 [.ref 0, .int 2] (o :: g)) P) :
    sok (sIf (dB (dBin vEq (dVar 4) (dC (.int 0)))) (sSeq (sAsg (dLstM (dCons (dTup (dCons (dC (.str [108, 97, 98, 101, 108])) (dCons (dC (.str [113])) (dCons (dC (.str [120])) dNil)))) (dCons (dVar 3) dNil))) (gName 7))
    (sSeq (sIf (dB (dBin vEq (dCall (Γ 9) (dCons (dVar 1) (dCons (dC (.int 2)) dNil))) (dC (.int 0)))) (sSeq (sExpr (dMeth0 isLst vReverse (dVar 7)))
    sNext) sNext)
    (sSeq (sAsg (dTup (dCons (dBin vIx (dLst (dCons (dC (.str [97, 110, 100])) (dCons (dC (.str [111, 114])) dNil))) (dCall (Γ 9) (dCons (dVar 1) (dCons (dC (.int 2)) dNil)))) (dCons (dBin vIx (dVar 7) (dC (.int 0))) (dCons (dBin vIx (dVar 7) (dC (.int 1))) dNil)))) (gName 3))
    sNext))) sNext l h) Q := by
  obtain ⟨f, o, g, x, y, gf, hf, ho, rfl, rfl⟩ := s
  refine sif_ (cEq rfl) (fun _ => ?_) (fun _ => ?_)
  · have lq : (Fm.lab [113] [120]).good := ⟨by decide +kernel, xU⟩
    refine asg_ (h1 := o :: (g ++ [.lst [(Fm.lab [113] [120]).val, f.val]])) (v := .ref (g.length + 1)) ?_ ?_
    · simp [dVar, mkT_ok, mkRef, lineN, Fm.val, tLabel]
    refine sok_seqo (fun l' h' => ∃ (p q : Fm) (o' : Ob), p.good ∧ q.good ∧ p.ht ≤ 3 ∧ q.ht ≤ 3 ∧ TapeOb o' ∧ l' = [some s0, some (.ref 0), some (kv n0 ls), some f.val, some (.int c), none, none, some (.ref (g.length + 1)), y] ∧ h' = o' :: (g ++ [.lst [p.val, q.val]])) (fun R' hR => ?_) ?_
    · refine sifk_ ?_
      simp [dVar]
      refine tk _ _ _ ho fun r o' h0 h1 ho' => ?_
      simp
      constructor
      · intro _
        simp [dVar, isLst, lstOf, vReverse]
        exact hR _ _ ⟨f, .lab [113] [120], o', gf, lq, hf, by simp [Fm.ht], ho', rfl, rfl⟩
      · intro _
        exact hR _ _ ⟨.lab [113] [120], f, o', lq, gf, by simp [Fm.ht], hf, ho', rfl, rfl⟩
    · rintro l' h' ⟨p, q, o', gp, gq, hp, hq', ho', rfl, rfl⟩
      refine asgo_ (fun v h2 => ∃ (b : Bool) (o2 : Ob), TapeOb o2 ∧ v = (Fm.bin b p q).val ∧ h2 = o2 :: (g ++ [.lst [p.val, q.val]])) (fun Q' hQ => ?_) ?_
      · simp [dVar, mkL_ok]
        refine tk _ _ _ ho' fun r o2 h0 h1 ho2 => ?_
        have i0 : vIx (.ref (g.length + 1)) (.int 0) (o2 :: (g ++ [.lst [p.val, q.val]])) = .ok p.val (o2 :: (g ++ [.lst [p.val, q.val]])) := by
          simp [vIx, seqOf, lstOf, nth]
        have i1 : vIx (.ref (g.length + 1)) (.int 1) (o2 :: (g ++ [.lst [p.val, q.val]])) = .ok q.val (o2 :: (g ++ [.lst [p.val, q.val]])) := by
          simp [vIx, seqOf, lstOf, nth]
        obtain rfl | rfl : r = 0 ∨ r = 1 := by omega
        · rw [vIx_lst (v := .str [97, 110, 100]) rfl]
          simp [i0, i1, mkT_ok]
          exact hQ _ _ ⟨true, o2, ho2, rfl, rfl⟩
        · rw [vIx_lst (v := .str [111, 114]) rfl]
          simp [i0, i1, mkT_ok]
          exact hQ _ _ ⟨false, o2, ho2, rfl, rfl⟩
      · rintro v h2 ⟨b, o2, ho2, rfl, rfl⟩
        simp only [e_next, sok_nx, List.set_cons_succ, List.set_cons_zero]
        exact hq _ _ ⟨.bin b p q, o2, _, _, _, ⟨gp, gq⟩, by simp [Fm.ht]; omega, ho2, rfl, rfl⟩
  · simp only [e_next, sok_nx]
    exact hq _ _ ⟨f, o, g, x, y, gf, by omega, ho, rfl, rfl⟩
theorem blk1 {Γ : Gam} {s0 : Val} {n0 : Int} {ls : List Tx} {c : Int} {l : GH.Loc} {h : Hv} {Q : Post} (s : St s0 n0 ls c 4 l h) (hq : ∀ l h, St s0 n0 ls c 4 l h → Q.nx l h)
    (tk : ∀ (o : Ob) (g : Hv) (P : Val → Hv → Prop), TapeOb o → (∀ r o', 0 ≤ r → r < 2 → TapeOb o' → P (.int r) (o' :: g)) → ok (Γ 9 [.ref 0, .int 2] (o :: g)) P) :
    sok (sIf (dB (dBin vEq (dVar 4) (dC (.int 1)))) (sSeq (sAsg (dTup (dCons (dC (.str [115, 111, 109, 101])) (dCons (dC (.str [121])) (dCons (dTup (dCons (dC (.str [99, 104, 105, 108, 100])) (dCons (dC (.int 1)) (dCons (dC (.str [121])) (dCons (dC (.str [120])) dNil))))) dNil)))) (gName 3))
    (sSeq (sIf (dB (dBin vEq (dCall (Γ 9) (dCons (dVar 1) (dCons (dC (.int 2)) dNil))) (dC (.int 0)))) (sSeq (sAsg (dTup (dCons (dC (.str [111, 114])) (dCons (dTup (dCons (dC (.str [110, 111, 116])) (dCons (dTup (dCons (dC (.str [116, 111, 112])) (dCons (dC (.str [120])) dNil))) dNil))) (dCons (dTup (dCons (dC (.str [97, 110, 100])) (dCons (dTup (dCons (dC (.str [116, 114, 117, 101])) dNil)) (dCons (dVar 3) dNil)))) dNil)))) (gName 3))
    sNext) sNext)
    sNext)) sNext l h) Q := by
  obtain ⟨f, o, g, x, y, gf, hf, ho, rfl, rfl⟩ := s
  refine sif_ (cEq rfl) (fun _ => ?_) (fun _ => ?_)
  · let f1 : Fm := .q true [121] (.chi 1 [121] [120])
    have g1 : f1.good := ⟨yU, yU, xU⟩
    refine asg_ (h1 := o :: g) (v := f1.val) (by simp [dVar, mkT_ok, f1, Fm.val, tQ, tChild]) ?_
    simp only [List.set_cons_succ, List.set_cons_zero]
    rw [e_seq, sok_then]
    refine sifk_ ?_
    simp [dVar]
    refine tk _ _ _ ho fun r o' h0 h1 ho' => ?_
    simp
    constructor
    · intro _
      let f2 : Fm := .bin false (.not (.at [116, 111, 112] [[120]])) (.bin true (.at tTrue []) f1)
      have g2 : f2.good := ⟨⟨by decide, by simp, (fun e => by cases e), by simpa using xU⟩, ⟨by decide, by simp, (fun e => rfl), by simp⟩, g1⟩
      simp [dVar, mkT_ok]
      exact hq _ _ ⟨f2, o', g, _, _, g2, by simp [f2, f1, Fm.ht], ho', rfl, rfl⟩
    · intro _
      exact hq _ _ ⟨f1, o', g, _, _, g1, by simp [f1, Fm.ht], ho', rfl, rfl⟩
  · simp only [e_next, sok_nx]
    exact hq _ _ ⟨f, o, g, x, y, gf, hf, ho, rfl, rfl⟩
theorem blk2 {Γ : Gam} {s0 : Val} {n0 : Int} {ls : List Tx} {c : Int} {l : GH.Loc} {h : Hv} {Q : Post} (s : St s0 n0 ls c 4 l h) (hq : ∀ l h, St s0 n0 ls c 12 l h → Q.nx l h)
    (tk : ∀ (o : Ob) (g : Hv) (P : Val → Hv → Prop), TapeOb o → (∀ r o', 0 ≤ r → r < 2 → TapeOb o' → P (.int r) (o' :: g)) → ok (Γ 9 [.ref 0, .int 2] (o :: g)) P) :
    sok (sIf (dB (dBin vEq (dVar 4) (dC (.int 2)))) (sSeq (sFor (iRange1 (dBin vAdd (dC (.int 6)) (dCall (Γ 9) (dCons (dVar 1) (dCons (dC (.int 2)) dNil))))) (gName 8) (sSeq (sAsg (dTup (dCons (dC (.str [97, 110, 100])) (dCons (dVar 3) (dCons (dTup (dCons (dC (.str [116, 111, 112])) (dCons (dBin vAdd (dC (.str [118])) (dFn vStrI (dVar 8))) dNil))) dNil)))) (gName 3))
    sNext))
    (sSeq (sAsg (dTup (dCons (dC (.str [115, 111, 109, 101])) (dCons (dC (.str [118, 48])) (dCons (dVar 3) dNil)))) (gName 3))
    sNext)) sNext l h) Q := by
  obtain ⟨f, o, g, x, y, gf, hf, ho, rfl, rfl⟩ := s
  refine sif_ (cEq rfl) (fun _ => ?_) (fun _ => ?_)
  · refine sok_seqo (St s0 n0 ls c 11) (fun R' hR => ?_) ?_
    · simp [dVar]
      refine tk _ _ _ ho fun r o' h0 h1 ho' => ?_
      try simp only [ok_ok]
      obtain ⟨m, hm, em⟩ : ∃ m : Nat, m ≤ 7 ∧ (6 + r) = (m : Int) := ⟨(6 + r).toNat, by omega, by omega⟩
      rw [vAdd_int, ok_ok, em, rng_ok (by omega)]
      simp only [ok_ok]
      refine forL_invo (fun items l' h' => ∃ (t : Nat) (f' : Fm) (x y : Option Val), t ≤ m ∧ items = (rangeL 0 m).drop t ∧ f'.good ∧ f'.ht ≤ 4 + t ∧ l' = [some s0, some (.ref 0), some (kv n0 ls), some f'.val, some (.int c), none, none, x, y] ∧ h' = o' :: g) ?_ ?_ _ _ _ ⟨0, f, x, y, by omega, rfl, gf, by omega, rfl, rfl⟩
      · intro I' hI v items l' h' ⟨t, f', x, y, ht, hit, gf', hf', hl', eh⟩
        subst hl' eh
        have hlt : t < m := by
          rcases Nat.lt_or_ge t m with q | q
          · exact q
          · rw [List.drop_of_length_le (by simp [rangeL]; omega)] at hit
            cases hit
        have hd : (rangeL 0 m).drop t = .int (t : Int) :: (rangeL 0 m).drop (t + 1) := by
          rw [List.drop_eq_getElem_cons (by simp [rangeL]; omega)]
          simp [rangeL]
        rw [hd] at hit
        obtain ⟨rfl, rfl⟩ := List.cons.inj hit
        refine ⟨trivial, ?_⟩
        simp only [e_name, tok_ok, List.set_cons_succ, List.set_cons_zero]
        have hv := vs_ok (o' :: g) t (by omega)
        have ha : vAdd (.str [118]) (.str [48 + t]) (o' :: g) = .ok (.str [118, 48 + t]) (o' :: g) := by simp [vAdd, lineN]
        refine asg_ (h1 := o' :: g) (v := (Fm.bin true f' (.at [116, 111, 112] [[118, 48 + t]])).val) ?_ ?_
        · simp [dVar, hv, ha, mkT_ok, Fm.val, tBin]
        · simp only [e_next, sok_nx, List.set_cons_succ, List.set_cons_zero]
          exact hI _ _ _ ⟨t + 1, .bin true f' (.at [116, 111, 112] [[118, 48 + t]]), _, _, hlt, rfl, ⟨gf', by decide, by simp, (fun e => by cases e), by simpa using vnames t (by omega)⟩, by simp [Fm.ht]; omega, rfl, rfl⟩
      · intro l' h' ⟨t, f', x, y, ht, hit, gf', hf', hl', eh⟩
        subst hl' eh
        exact ⟨trivial, hR _ _ ⟨f', o', g, x, y, gf', by omega, ho', rfl, rfl⟩⟩
    · rintro l' h' ⟨f', o', g', x', y', gf', hf', ho', rfl, rfl⟩
      refine asg_ (h1 := o' :: g') (v := (Fm.q true [118, 48] f').val) (by simp [dVar, mkT_ok, Fm.val, tQ]) ?_
      simp only [e_next, sok_nx, List.set_cons_succ, List.set_cons_zero]
      exact hq _ _ ⟨.q true [118, 48] f', o', g', x', y', ⟨vnames 0 (by omega), gf'⟩, by simp [Fm.ht]; omega, ho', rfl, rfl⟩
  · simp only [e_next, sok_nx]
    exact hq _ _ ⟨f, o, g, x, y, gf, by omega, ho, rfl, rfl⟩
theorem blk3 {Γ : Gam} {s0 : Val} {n0 : Int} {ls : List Tx} {c : Int} {l : GH.Loc} {h : Hv} {Q : Post} (s : St s0 n0 ls c 12 l h) (hq : ∀ l h, St s0 n0 ls c 53 l h → Q.nx l h)
    (tk : ∀ (o : Ob) (g : Hv) (P : Val → Hv → Prop), TapeOb o → (∀ r o', 0 ≤ r → r < 8 → TapeOb o' → P (.int r) (o' :: g)) → ok (Γ 9 [.ref 0, .int 8] (o :: g)) P) :
    sok (sIf (dB (dBin vEq (dVar 4) (dC (.int 3)))) (sSeq (sFor (iRange1 (dBin vAdd (dC (.int 34)) (dCall (Γ 9) (dCons (dVar 1) (dCons (dC (.int 8)) dNil))))) (gName 8) (sSeq (sAsg (dTup (dCons (dC (.str [110, 111, 116])) (dCons (dVar 3) dNil))) (gName 3))
    sNext))
    sNext) sNext l h) Q := by
  obtain ⟨f, o, g, x, y, gf, hf, ho, rfl, rfl⟩ := s
  refine sif_ (cEq rfl) (fun _ => ?_) (fun _ => ?_)
  · rw [e_seq, sok_then]
    simp [dVar]
    refine tk _ _ _ ho fun r o' h0 h1 ho' => ?_
    try simp only [ok_ok]
    obtain ⟨m, hm, em⟩ : ∃ m : Nat, m ≤ 41 ∧ (34 + r) = (m : Int) := ⟨(34 + r).toNat, by omega, by omega⟩
    rw [vAdd_int, ok_ok, em, rng_ok (by omega)]
    simp only [ok_ok]
    refine forL_invo (fun items l' h' => ∃ (f' : Fm) (x y : Option Val), f'.good ∧ f'.ht + items.length ≤ 12 + m ∧ l' = [some s0, some (.ref 0), some (kv n0 ls), some f'.val, some (.int c), none, none, x, y] ∧ h' = o' :: g) ?_ ?_ _ _ _ ⟨f, x, y, gf, by simp [rangeL]; omega, rfl, rfl⟩
    · intro I' hI v items l' h' ⟨f', x, y, gf', hf', hl', eh⟩
      subst hl' eh
      refine ⟨trivial, ?_⟩
      simp only [e_name, tok_ok, List.set_cons_succ, List.set_cons_zero]
      refine asg_ (h1 := o' :: g) (v := (Fm.not f').val) (by simp [dVar, mkT_ok, Fm.val, tNot]) ?_
      simp only [e_next, sok_nx, List.set_cons_succ, List.set_cons_zero]
      exact hI _ _ _ ⟨.not f', _, _, gf', by simp [Fm.ht] at hf' ⊢; omega, rfl, rfl⟩
    · intro l' h' ⟨f', x, y, gf', hf', hl', eh⟩
      subst hl' eh
      refine ⟨trivial, ?_⟩
      exact hq _ _ ⟨f', o', g, x, y, gf', by simp at hf'; omega, ho', rfl, rfl⟩
  · simp only [e_next, sok_nx]
    exact hq _ _ ⟨f, o, g, x, y, gf, by omega, ho, rfl, rfl⟩
end L03
set_option Elab.async false
set_option linter.all false
set_option maxRecDepth 100000
set_option maxHeartbeats 1000000
set_option autoImplicit false
namespace L03
open GH PySem
theorem Pl_txt {L : List Tx} (n : L.length ≤ 16777216) (d : Nat) : Pl (d + 1) (.lst (L.map .str)) := ⟨by simpa using n, fun v hv => by
  obtain ⟨x, _, rfl⟩ := List.mem_map.mp hv
  cases d <;> exact trivial⟩
/-- the end of the law: behind the blocks -/
theorem law_end {ns : Val} {K : Nat} (hK : K = 99) {n0 : Int} {ls : List Tx} (kk : KOk n0 ls) {f : Fm} (g : f.good) (hf : f.ht ≤ 53) {h : Hv} {c x y : Option Val} {P : Val → Hv → Prop} (z : P (.bl true) h) :
    sok ((sSeq (sIf (dNot (dTru (dCall (lev D K 12) (dCons (dLst (dCons (dCall (lev D K 3) (dCons (dVar 3) dNil)) (dCons (dCall (lev D K 4) (dCons (dVar 3) dNil)) dNil))) (dCons (dLst (dCons (dFn vSorted (dCall (lev D K 17) (dCons (dVar 3) dNil))) (dCons (dCall (lev D K 18) (dCons (dVar 3) dNil)) dNil))) dNil))))) (sSeq (sRet (dC (.bl false)))
    sNext) sNext)
    (sSeq (sAsg (dAndV (dCall (lev D K 19) (dCons (dVar 2) (dCons (dVar 3) dNil))) (dBin vLe (dCall (lev D K 18) (dCons (dVar 3) dNil)) (dC (.int 40)))) (gName 5))
    (sSeq (sAsg (dAndV (dVar 5) (dBin vEq (dCall (lev D K 17) (dCons (dVar 3) dNil)) (dLst dNil))) (gName 6))
    (sSeq (sIf (dB (dBin vNe (dCall (lev D K 20) (dCons (dVar 2) (dCons (dVar 3) (dCons (dC (.bl false)) dNil)))) (dIf (dTru (dVar 5)) (dC (.str [121, 101, 115])) (dC (.str [110, 111]))))) (sSeq (sRet (dC (.bl false)))
    sNext) sNext)
    (sSeq (sRet (dBin vEq (dCall (lev D K 20) (dCons (dVar 2) (dCons (dVar 3) (dCons (dC (.bl true)) dNil)))) (dIf (dTru (dVar 6)) (dC (.str [121, 101, 115])) (dC (.str [110, 111])))))
    sNext))))) [some ns, some (.ref 0), some (kv n0 ls), some f.val, c, none, none, x, y] h) { nx := fun _ h => P .non h, rt := P } := by
  have fa : ∀ h, lev D K 3 [f.val] h = .ok (.lst ((srt f.fv).map .str)) h := fun h => by subst hK; exact free_a 53 hf g (k := 44)
  have fb : ∀ h, lev D K 17 [f.val] h = .ok (.lst (f.fv.map .str)) h := fun h => by subst hK; exact free_b 53 hf g (k := 44)
  have da : ∀ h, lev D K 4 [f.val] h = .ok (.int f.dep) h := fun h => by subst hK; exact dep_a 53 hf g (k := 44)
  have db : ∀ h, lev D K 18 [f.val] h = .ok (.int f.dep) h := fun h => by subst hK; exact dep_b 53 hf g (k := 44)
  have fi : ∀ h, lev D K 19 [kv n0 ls, f.val] h = .ok (.bl (f.fits n0 ls)) h := fun h => by subst hK; exact fits_b kk.tx 53 hf g (k := 43)
  have td : ∀ (c : Bool) h, lev D K 20 [kv n0 ls, f.val, .bl c] h = .ok (yn (if c then cs n0 ls f else cf n0 ls f)) h := fun c h => by subst hK; exact told_a kk hf g c (k := 40)
  have ofv := fv_ok g
  have len := ofv.len
  have hs : vSorted (.lst (f.fv.map .str)) h = .ok (.lst ((srt f.fv).map .str)) h := vSorted_txt ofv.tx h
  have pl : Pl 2 (.lst [.lst ((srt f.fv).map .str), .int f.dep]) := by
    refine ⟨by simp, fun v hv => ?_⟩
    simp only [List.mem_cons, List.not_mem_nil, or_false] at hv
    rcases hv with rfl | rfl
    · exact Pl_txt (by rw [srt_len]; omega) 0
    · trivial
  have sm : ∀ V, Pl 2 V → lev D K 12 [V, V] h = .ok (.bl true) h := fun V pl => by
    obtain ⟨k, rfl⟩ : ∃ k, K = k + 2 * 2 + 2 := ⟨93, by omega⟩
    exact eq_of (same_refl 2 V pl ⟨rfl, rfl⟩)
  refine if_ (c := false) (h := h) (by simp [dVar, fa, da, fb, db, hs, mkL_ok, sm _ pl]) (fun z => by cases z) (fun _ => ?_)
  have e1 : dAndV (dCall (lev D K 19) (dCons (dVar 2) (dCons (dVar 3) dNil))) (dBin vLe (dCall (lev D K 18) (dCons (dVar 3) dNil)) (dC (.int 40))) [some ns, some (.ref 0), some (kv n0 ls), some f.val, c, none, none, x, y] h = .ok (.bl (cf n0 ls f)) h := by
    simp [dVar, fi, db]
    cases hfi : f.fits n0 ls with
    | false => simp [cf, hfi]
    | true =>
      by_cases hd : f.dep ≤ 40
      · have : ((f.dep : Nat) : Int) ≤ 40 := by omega
        simp [cf, hfi, hd, this]
      · have : ¬ ((f.dep : Nat) : Int) ≤ 40 := by omega
        simp [cf, hfi, hd, this]
  have e0 := (vEq_lnil (f.fv.map .str) (okVs_txt ofv.tx) h).1
  have e2 : ∀ b : Bool, b = cf n0 ls f → dAndV (dVar 5) (dBin vEq (dCall (lev D K 17) (dCons (dVar 3) dNil)) (dLst dNil)) [some ns, some (.ref 0), some (kv n0 ls), some f.val, c, some (.bl b), none, x, y] h = .ok (.bl (cs n0 ls f)) h := by
    rintro b rfl
    simp [dVar, fb, mkL_ok, e0]
    cases hc : cf n0 ls f <;> simp [cs, hc]
  refine asg_ (h1 := h) (v := .bl (cf n0 ls f)) e1 ?_
  refine asg_ (h1 := h) (v := .bl (cs n0 ls f)) (e2 _ rfl) ?_
  simp only [List.set_cons_succ, List.set_cons_zero]
  refine if_ (c := false) (h := h) ?_ (fun z => by cases z) (fun _ => ret_ ?_)
  · simp [dVar, td]
    cases cf n0 ls f <;> simp [yn]
  · simp [dVar, td]
    cases cs n0 ls f <;> simpa [yn] using z
theorem law_true (ns : List Int) (h0 : ns.length ≤ 63) : ∃ h', lev D 100 21 [.fz (ns.map .int)] [] = .ok (.bl true) h' := by
  have main : ok (lev D 100 21 [.fz (ns.map .int)] []) fun v _ => v = .bl true := by
    show ok (runDef 9 (b_law (lev D 99)) [.fz (ns.map .int)] []) _
    rw [ok_run]
    unfold b_law
    generalize hs0 : Val.fz (ns.map .int) = s0
    refine asgo_ (fun v h => ∃ o, TapeOb o ∧ v = .ref 0 ∧ h = [o]) (fun Q' hQ => ?_) ?_
    · simp [dVar]
      subst hs0
      exact tape_sp (h := []) fun o ho => hQ _ _ ⟨o, ho, rfl, rfl⟩
    rintro v h ⟨o, ho, rfl, rfl⟩
    refine asgo_ (fun v h => ∃ n0 ls o, KOk n0 ls ∧ TapeOb o ∧ v = kv n0 ls ∧ h = [o]) (fun Q' hQ => ?_) ?_
    · simp [dVar]
      exact kind_sp (k := 97) ho fun n0 ls o' kk ho' => hQ _ _ ⟨n0, ls, o', kk, ho', rfl, rfl⟩
    rintro v h ⟨n0, ls, o, kk, ho, rfl, rfl⟩
    simp only [List.map_cons, List.map_nil, List.length_cons, List.length_nil, List.cons_append, List.nil_append, List.replicate, List.set_cons_succ, List.set_cons_zero]
    refine asgo_ (fun v h => ∃ (f : Fm) (o : Ob), f.good ∧ f.ht ≤ 3 ∧ TapeOb o ∧ v = f.val ∧ h = [o]) (fun Q' hQ => ?_) ?_
    · have sl : ∀ (L : List Tx) (m : Nat), cut (L.map Val.str) none (some (m : Int)) = (L.take m).map .str := fun L m => by rw [cut_take, List.map_take]
      have c1 : ∀ (L : List Tx) (i : Int) h, 0 ≤ i → vCut (.lst (L.map .str)) none (some i) h = .ok (.lst ((L.take i.toNat).map .str)) h := fun L i h hi => by
        obtain ⟨m, rfl⟩ : ∃ m : Nat, i = (m : Int) := ⟨i.toNat, by omega⟩
        simp [vCut, lstOf, sl]
      simp [dVar, mkL_ok]
      refine take_l (k := 98) ho (by omega) (by omega) fun r o1 r0 r1 ho1 => ?_
      simp only [vAdd_int, ok_ok]
      rw [show [Val.str [120], Val.str [121], Val.str [117]] = ([[120], [121], [117]] : List Tx).map .str from rfl, c1 _ _ _ (by omega)]
      simp only [ok_ok]
      refine take_l (k := 98) ho1 (by omega) (by omega) fun r' o2 r0' r1' ho2 => ?_
      simp only [ok_ok]
      rw [show [Val.str [88], Val.str [89, 50]] = ([[88], [89, 50]] : List Tx).map .str from rfl, c1 _ _ _ (by omega)]
      simp only [ok_ok]
      have u1 : InU (([[120], [121], [117]] : List Tx).take (1 + r).toNat) := fun x hx => (by decide : ∀ x ∈ ([[120], [121], [117]] : List Tx), x ∈ U) x (List.mem_of_mem_take hx)
      have u2 : InU (([[88], [89, 50]] : List Tx).take r'.toNat) := fun x hx => (by decide : ∀ x ∈ ([[88], [89, 50]] : List Tx), x ∈ U) x (List.mem_of_mem_take hx)
      have l1 := List.length_take_le (1 + r).toNat ([[120], [121], [117]] : List Tx)
      have l2 := List.length_take_le r'.toNat ([[88], [89, 50]] : List Tx)
      exact lv (show 99 = 93 + 3 + 3 by omega) (gen_matrix 3 ho2 kk u1 u2 (by simp at l1 ⊢; omega) (by simp at l2 ⊢; omega) fun f o3 gf hf ho3 => hQ _ _ ⟨f, o3, gf, hf, ho3, rfl, rfl⟩)
    rintro v h ⟨f, o, gf, hf, ho, rfl, rfl⟩
    refine asgo_ (fun v h => ∃ c o, TapeOb o ∧ v = .int c ∧ h = [o]) (fun Q' hQ => ?_) ?_
    · simp [dVar]
      exact take_l (k := 98) ho (by omega) (by omega) fun r o1 r0 r1 ho1 => hQ _ _ ⟨r, o1, ho1, rfl, rfl⟩
    rintro v h ⟨c, o, ho, rfl, rfl⟩
    simp only [List.set_cons_succ, List.set_cons_zero]
    have tk2 : ∀ (o : Ob) (g : Hv) (P : Val → Hv → Prop), TapeOb o → (∀ r o', 0 ≤ r → r < 2 → TapeOb o' → P (.int r) (o' :: g)) → ok (lev D 99 9 [.ref 0, .int 2] (o :: g)) P := fun o g P ho z => take_l (k := 98) ho (by omega) (by omega) z
    have tk8 : ∀ (o : Ob) (g : Hv) (P : Val → Hv → Prop), TapeOb o → (∀ r o', 0 ≤ r → r < 8 → TapeOb o' → P (.int r) (o' :: g)) → ok (lev D 99 9 [.ref 0, .int 8] (o :: g)) P := fun o g P ho z => take_l (k := 98) ho (by omega) (by omega) z
    refine sok_seqo (St s0 n0 ls c 4) (fun R' hR => blk0 ⟨f, o, [], none, none, gf, hf, ho, rfl, rfl⟩ hR tk2) fun l h s => ?_
    refine sok_seqo (St s0 n0 ls c 4) (fun R' hR => blk1 s hR tk2) fun l h s => ?_
    refine sok_seqo (St s0 n0 ls c 12) (fun R' hR => blk2 s hR tk2) fun l h s => ?_
    refine sok_seqo (St s0 n0 ls c 53) (fun R' hR => blk3 s hR tk8) fun l h s => ?_
    obtain ⟨f, o, g, x, y, gf, hf, ho, rfl, rfl⟩ := s
    exact law_end rfl kk gf hf (P := fun v _ => v = .bl true) rfl
  obtain ⟨v, h', e, rfl⟩ := ok_eq main
  exact ⟨h', e⟩
end L03
set_option Elab.async false
set_option linter.all false
set_option maxRecDepth 100000
set_option maxHeartbeats 0
namespace L03
open PySem PySem.Spec PyProof.Rows L2 GH

def fn0 : List He.DefD := ([⟨("check_kind", none), "check_kind", "check_kind", defArgs (top 6), defBody (top 6), defScope (top 6), [], []⟩, ⟨("atom_variables", none), "atom_variables", "atom_variables", defArgs (top 12), defBody (top 12), defScope (top 12), [], []⟩, ⟨("inner", none), "inner", "inner", defArgs (top 13), defBody (top 13), defScope (top 13), [], []⟩, ⟨("free_variables", none), "free_variables", "free_variables", defArgs (top 14), defBody (top 14), defScope (top 14), [], []⟩, ⟨("depth", none), "depth", "depth", defArgs (top 15), defBody (top 15), defScope (top 15), [], []⟩, ⟨("check_parts", none), "check_parts", "check_parts", defArgs (top 16), defBody (top 16), defScope (top 16), [], []⟩, ⟨("check_formula", none), "check_formula", "check_formula", defArgs (top 17), defBody (top 17), defScope (top 17), [], []⟩, ⟨("check_sentence", none), "check_sentence", "check_sentence", defArgs (top 18), defBody (top 18), defScope (top 18), [], []⟩, ⟨("_law_tape", none), "_law_tape", "_law_tape", defArgs (top 20), defBody (top 20), defScope (top 20), [], []⟩, ⟨("_law_take", none), "_law_take", "_law_take", defArgs (top 21), defBody (top 21), defScope (top 21), [], []⟩, ⟨("_law_is_integer", none), "_law_is_integer", "_law_is_integer", defArgs (top 22), defBody (top 22), defScope (top 22), [], []⟩, ⟨("_law_same_items", none), "_law_same_items", "_law_same_items", defArgs (top 23), defBody (top 23), defScope (top 23), [], []⟩, ⟨("_law_same", none), "_law_same", "_law_same", defArgs (top 24), defBody (top 24), defScope (top 24), [], []⟩, ⟨("_law_kind", none), "_law_kind", "_law_kind", defArgs (top 25), defBody (top 25), defScope (top 25), [], []⟩, ⟨("_law_atom", none), "_law_atom", "_law_atom", defArgs (top 26), defBody (top 26), defScope (top 26), [], []⟩, ⟨("_law_matrix", none), "_law_matrix", "_law_matrix", defArgs (top 27), defBody (top 27), defScope (top 27), [], []⟩, ⟨("_law_inner", none), "_law_inner", "_law_inner", defArgs (top 28), defBody (top 28), defScope (top 28), [], []⟩, ⟨("_law_free", none), "_law_free", "_law_free", defArgs (top 29), defBody (top 29), defScope (top 29), [], []⟩, ⟨("_law_depth", none), "_law_depth", "_law_depth", defArgs (top 30), defBody (top 30), defScope (top 30), [], []⟩, ⟨("_law_fits", none), "_law_fits", "_law_fits", defArgs (top 31), defBody (top 31), defScope (top 31), [], []⟩, ⟨("_law_told", none), "_law_told", "_law_told", defArgs (top 32), defBody (top 32), defScope (top 32), [], []⟩, ⟨("law", none), "law", "law", defArgs (top 33), defBody (top 33), defScope (top 33), [], []⟩])
def fn : List He.DefD := fn0
def fa0 : List He.Fa := ([.glo "check_kind", .glo "atom_variables", .glo "inner", .glo "free_variables", .glo "depth", .glo "check_parts", .glo "check_formula", .glo "check_sentence", .glo "_law_tape", .glo "_law_take", .glo "_law_is_integer", .glo "_law_same_items", .glo "_law_same", .glo "_law_kind", .glo "_law_atom", .glo "_law_matrix", .glo "_law_inner", .glo "_law_free", .glo "_law_depth", .glo "_law_fits", .glo "_law_told", .glo "law", .free "abs", .free "all", .free "bool", .free "dict", .free "int", .free "isinstance", .free "len", .free "list"])
def fa1 : List He.Fa := ([.free "max", .free "range", .free "set", .free "sorted", .free "str", .free "tuple", .int "MOST_DEPTH" 40, .int "MOST_FREE" 6, .str "LETTERS" (sOf [97, 98, 99, 100, 101, 102, 103, 104, 105, 106, 107, 108, 109, 110, 111, 112, 113, 114, 115, 116, 117, 118, 119, 120, 121, 122]), .glo "ATOMS", .glo "QUANTIFIERS", .exc (sOf [83, 97, 121, 69, 114, 114, 111, 114]), .glo (sOf [83, 97, 121, 69, 114, 114, 111, 114]), .exc (sOf [73, 110, 118, 97, 108, 105, 100, 75, 105, 110, 100]), .glo (sOf [73, 110, 118, 97, 108, 105, 100, 75, 105, 110, 100]), .exc (sOf [73, 110, 118, 97, 108, 105, 100, 83, 101, 110, 116, 101, 110, 99, 101]), .glo (sOf [73, 110, 118, 97, 108, 105, 100, 83, 101, 110, 116, 101, 110, 99, 101]), .exm (sOf [83, 97, 121, 69, 114, 114, 111, 114]) (sOf [73, 110, 118, 97, 108, 105, 100, 83, 101, 110, 116, 101, 110, 99, 101]) false, .exm (sOf [73, 110, 118, 97, 108, 105, 100, 75, 105, 110, 100]) (sOf [73, 110, 118, 97, 108, 105, 100, 83, 101, 110, 116, 101, 110, 99, 101]) false, .exm (sOf [73, 110, 118, 97, 108, 105, 100, 83, 101, 110, 116, 101, 110, 99, 101]) (sOf [73, 110, 118, 97, 108, 105, 100, 83, 101, 110, 116, 101, 110, 99, 101]) true])
def fa : List He.Fa := fa0 ++ fa1
def nm0 : List PySem.Str := ([("SayError" : PySem.Str), ("InvalidKind" : PySem.Str), ("InvalidSentence" : PySem.Str), ("LETTERS" : PySem.Str), ("check_kind" : PySem.Str), ("ATOMS" : PySem.Str), ("QUANTIFIERS" : PySem.Str), ("MOST_FREE" : PySem.Str), ("MOST_DEPTH" : PySem.Str), ("atom_variables" : PySem.Str), ("inner" : PySem.Str), ("free_variables" : PySem.Str), ("depth" : PySem.Str), ("check_parts" : PySem.Str), ("check_formula" : PySem.Str), ("check_sentence" : PySem.Str), ("_law_tape" : PySem.Str), ("_law_take" : PySem.Str), ("_law_is_integer" : PySem.Str), ("_law_same_items" : PySem.Str), ("_law_same" : PySem.Str), ("_law_kind" : PySem.Str), ("_law_atom" : PySem.Str), ("_law_matrix" : PySem.Str), ("_law_inner" : PySem.Str), ("_law_free" : PySem.Str), ("_law_depth" : PySem.Str), ("_law_fits" : PySem.Str), ("_law_told" : PySem.Str)])
def nm : List PySem.Str := nm0
def ex (K : PySem.W.Frag) : Bool := [He.tupB K "ATOMS" ([[108, 97, 98, 101, 108], [99, 104, 105, 108, 100], [98, 101, 108, 111, 119], [115, 97, 109, 101], [116, 111, 112], [105, 110], [105, 110, 115, 105, 100, 101], [116, 114, 117, 101]].map fun s => He.Dv.str (sOf s)), He.tupB K "QUANTIFIERS" ([[115, 111, 109, 101], [97, 108, 108], [115, 111, 109, 101, 115, 101, 116], [97, 108, 108, 115, 101, 116]].map fun s => He.Dv.str (sOf s)), GH.excCB K (clsA K [73, 110, 118, 97, 108, 105, 100, 83, 101, 110, 116, 101, 110, 99, 101]), GH.kitB K (clsA K [73, 110, 118, 97, 108, 105, 100, 83, 101, 110, 116, 101, 110, 99, 101]) (clsA K [83, 97, 121, 69, 114, 114, 111, 114]) true].all id
theorem ex_at {K : PySem.W.Frag} (c : ex K = true) (i : Nat) {b : Bool} (h : [He.tupB K "ATOMS" ([[108, 97, 98, 101, 108], [99, 104, 105, 108, 100], [98, 101, 108, 111, 119], [115, 97, 109, 101], [116, 111, 112], [105, 110], [105, 110, 115, 105, 100, 101], [116, 114, 117, 101]].map fun s => He.Dv.str (sOf s)), He.tupB K "QUANTIFIERS" ([[115, 111, 109, 101], [97, 108, 108], [115, 111, 109, 101, 115, 101, 116], [97, 108, 108, 115, 101, 116]].map fun s => He.Dv.str (sOf s)), GH.excCB K (clsA K [73, 110, 118, 97, 108, 105, 100, 83, 101, 110, 116, 101, 110, 99, 101]), GH.kitB K (clsA K [73, 110, 118, 97, 108, 105, 100, 83, 101, 110, 116, 101, 110, 99, 101]) (clsA K [83, 97, 121, 69, 114, 114, 111, 114]) true][i]? = some b := by rfl) : b = true := List.all_eq_true.mp c b (List.mem_of_getElem? h)
abbrev R : PySem.W.OpenRow := PySem.W.OpenLaw.row PySem.Challenge.rw_grovehouse_k03_variables_and_rules
abbrev hk : PySem.W.Hook := He.hookX 4 fa fn [] [] ex
def ob (s : PySem.W.SharedT) : He.AlX := He.obsX 4 fa fn [] [] ex (HandSHeadRun.getT s)
theorem ob_eq (s : PySem.W.SharedT) : ob s = hk.obs s.abs := He.obsX_eq (HandSHeadRun.getT_eq s)
theorem run (w : World) : HandSHeadRun.RunEq R (PySem.W.view R.prog [33]) hk ob 3000 nm w := by
  intro os
  kernel_rfl
theorem u_check_kind {K : PySem.W.Frag} (c : He.SaysD fa fn K) : ∃ fd, FnP K "check_kind" 6 fd ∧ Binds K fd ["kind"] [] := by
  obtain ⟨fd, F⟩ := c.def_ 0 (d := ⟨("check_kind", none), "check_kind", "check_kind", defArgs (top 6), defBody (top 6), defScope (top 6), [], []⟩) rfl
  exact ⟨fd, F, FunD.bindsN (ps := ["kind"]) F fun _ _ _ _ _ _ us hl => match us, hl with | [_], _ => rfl⟩
theorem u_atom_variables {K : PySem.W.Frag} (c : He.SaysD fa fn K) : ∃ fd, FnP K "atom_variables" 12 fd ∧ Binds K fd ["formula"] [] := by
  obtain ⟨fd, F⟩ := c.def_ 1 (d := ⟨("atom_variables", none), "atom_variables", "atom_variables", defArgs (top 12), defBody (top 12), defScope (top 12), [], []⟩) rfl
  exact ⟨fd, F, FunD.bindsN (ps := ["formula"]) F fun _ _ _ _ _ _ us hl => match us, hl with | [_], _ => rfl⟩
theorem u_inner {K : PySem.W.Frag} (c : He.SaysD fa fn K) : ∃ fd, FnP K "inner" 13 fd ∧ Binds K fd ["formula"] [] := by
  obtain ⟨fd, F⟩ := c.def_ 2 (d := ⟨("inner", none), "inner", "inner", defArgs (top 13), defBody (top 13), defScope (top 13), [], []⟩) rfl
  exact ⟨fd, F, FunD.bindsN (ps := ["formula"]) F fun _ _ _ _ _ _ us hl => match us, hl with | [_], _ => rfl⟩
theorem u_free_variables {K : PySem.W.Frag} (c : He.SaysD fa fn K) : ∃ fd, FnP K "free_variables" 14 fd ∧ Binds K fd ["formula"] [] := by
  obtain ⟨fd, F⟩ := c.def_ 3 (d := ⟨("free_variables", none), "free_variables", "free_variables", defArgs (top 14), defBody (top 14), defScope (top 14), [], []⟩) rfl
  exact ⟨fd, F, FunD.bindsN (ps := ["formula"]) F fun _ _ _ _ _ _ us hl => match us, hl with | [_], _ => rfl⟩
theorem u_depth {K : PySem.W.Frag} (c : He.SaysD fa fn K) : ∃ fd, FnP K "depth" 15 fd ∧ Binds K fd ["formula"] [] := by
  obtain ⟨fd, F⟩ := c.def_ 4 (d := ⟨("depth", none), "depth", "depth", defArgs (top 15), defBody (top 15), defScope (top 15), [], []⟩) rfl
  exact ⟨fd, F, FunD.bindsN (ps := ["formula"]) F fun _ _ _ _ _ _ us hl => match us, hl with | [_], _ => rfl⟩
theorem u_check_parts {K : PySem.W.Frag} (c : He.SaysD fa fn K) : ∃ fd, FnP K "check_parts" 16 fd ∧ Binds K fd ["kind", "formula"] [] := by
  obtain ⟨fd, F⟩ := c.def_ 5 (d := ⟨("check_parts", none), "check_parts", "check_parts", defArgs (top 16), defBody (top 16), defScope (top 16), [], []⟩) rfl
  exact ⟨fd, F, FunD.bindsN (ps := ["kind", "formula"]) F fun _ _ _ _ _ _ us hl => match us, hl with | [_, _], _ => rfl⟩
theorem u_check_formula {K : PySem.W.Frag} (c : He.SaysD fa fn K) : ∃ fd, FnP K "check_formula" 17 fd ∧ Binds K fd ["kind", "formula"] [] := by
  obtain ⟨fd, F⟩ := c.def_ 6 (d := ⟨("check_formula", none), "check_formula", "check_formula", defArgs (top 17), defBody (top 17), defScope (top 17), [], []⟩) rfl
  exact ⟨fd, F, FunD.bindsN (ps := ["kind", "formula"]) F fun _ _ _ _ _ _ us hl => match us, hl with | [_, _], _ => rfl⟩
theorem u_check_sentence {K : PySem.W.Frag} (c : He.SaysD fa fn K) : ∃ fd, FnP K "check_sentence" 18 fd ∧ Binds K fd ["kind", "formula"] [] := by
  obtain ⟨fd, F⟩ := c.def_ 7 (d := ⟨("check_sentence", none), "check_sentence", "check_sentence", defArgs (top 18), defBody (top 18), defScope (top 18), [], []⟩) rfl
  exact ⟨fd, F, FunD.bindsN (ps := ["kind", "formula"]) F fun _ _ _ _ _ _ us hl => match us, hl with | [_, _], _ => rfl⟩
theorem u__law_tape {K : PySem.W.Frag} (c : He.SaysD fa fn K) : ∃ fd, FnP K "_law_tape" 20 fd ∧ Binds K fd ["script"] [] := by
  obtain ⟨fd, F⟩ := c.def_ 8 (d := ⟨("_law_tape", none), "_law_tape", "_law_tape", defArgs (top 20), defBody (top 20), defScope (top 20), [], []⟩) rfl
  exact ⟨fd, F, FunD.bindsN (ps := ["script"]) F fun _ _ _ _ _ _ us hl => match us, hl with | [_], _ => rfl⟩
theorem u__law_take {K : PySem.W.Frag} (c : He.SaysD fa fn K) : ∃ fd, FnP K "_law_take" 21 fd ∧ Binds K fd ["tape", "many"] [] := by
  obtain ⟨fd, F⟩ := c.def_ 9 (d := ⟨("_law_take", none), "_law_take", "_law_take", defArgs (top 21), defBody (top 21), defScope (top 21), [], []⟩) rfl
  exact ⟨fd, F, FunD.bindsN (ps := ["tape", "many"]) F fun _ _ _ _ _ _ us hl => match us, hl with | [_, _], _ => rfl⟩
theorem u__law_is_integer {K : PySem.W.Frag} (c : He.SaysD fa fn K) : ∃ fd, FnP K "_law_is_integer" 22 fd ∧ Binds K fd ["actual"] [] := by
  obtain ⟨fd, F⟩ := c.def_ 10 (d := ⟨("_law_is_integer", none), "_law_is_integer", "_law_is_integer", defArgs (top 22), defBody (top 22), defScope (top 22), [], []⟩) rfl
  exact ⟨fd, F, FunD.bindsN (ps := ["actual"]) F fun _ _ _ _ _ _ us hl => match us, hl with | [_], _ => rfl⟩
theorem u__law_same_items {K : PySem.W.Frag} (c : He.SaysD fa fn K) : ∃ fd, FnP K "_law_same_items" 23 fd ∧ Binds K fd ["actual", "expected"] [] := by
  obtain ⟨fd, F⟩ := c.def_ 11 (d := ⟨("_law_same_items", none), "_law_same_items", "_law_same_items", defArgs (top 23), defBody (top 23), defScope (top 23), [], []⟩) rfl
  exact ⟨fd, F, FunD.bindsN (ps := ["actual", "expected"]) F fun _ _ _ _ _ _ us hl => match us, hl with | [_, _], _ => rfl⟩
theorem u__law_same {K : PySem.W.Frag} (c : He.SaysD fa fn K) : ∃ fd, FnP K "_law_same" 24 fd ∧ Binds K fd ["actual", "expected"] [] := by
  obtain ⟨fd, F⟩ := c.def_ 12 (d := ⟨("_law_same", none), "_law_same", "_law_same", defArgs (top 24), defBody (top 24), defScope (top 24), [], []⟩) rfl
  exact ⟨fd, F, FunD.bindsN (ps := ["actual", "expected"]) F fun _ _ _ _ _ _ us hl => match us, hl with | [_, _], _ => rfl⟩
theorem u__law_kind {K : PySem.W.Frag} (c : He.SaysD fa fn K) : ∃ fd, FnP K "_law_kind" 25 fd ∧ Binds K fd ["tape"] [] := by
  obtain ⟨fd, F⟩ := c.def_ 13 (d := ⟨("_law_kind", none), "_law_kind", "_law_kind", defArgs (top 25), defBody (top 25), defScope (top 25), [], []⟩) rfl
  exact ⟨fd, F, FunD.bindsN (ps := ["tape"]) F fun _ _ _ _ _ _ us hl => match us, hl with | [_], _ => rfl⟩
theorem u__law_atom {K : PySem.W.Frag} (c : He.SaysD fa fn K) : ∃ fd, FnP K "_law_atom" 26 fd ∧ Binds K fd ["tape", "kind", "singles", "sets"] [] := by
  obtain ⟨fd, F⟩ := c.def_ 14 (d := ⟨("_law_atom", none), "_law_atom", "_law_atom", defArgs (top 26), defBody (top 26), defScope (top 26), [], []⟩) rfl
  exact ⟨fd, F, FunD.bindsN (ps := ["tape", "kind", "singles", "sets"]) F fun _ _ _ _ _ _ us hl => match us, hl with | [_, _, _, _], _ => rfl⟩
theorem u__law_matrix {K : PySem.W.Frag} (c : He.SaysD fa fn K) : ∃ fd, FnP K "_law_matrix" 27 fd ∧ Binds K fd ["tape", "kind", "singles", "sets", "deep"] [] := by
  obtain ⟨fd, F⟩ := c.def_ 15 (d := ⟨("_law_matrix", none), "_law_matrix", "_law_matrix", defArgs (top 27), defBody (top 27), defScope (top 27), [], []⟩) rfl
  exact ⟨fd, F, FunD.bindsN (ps := ["tape", "kind", "singles", "sets", "deep"]) F fun _ _ _ _ _ _ us hl => match us, hl with | [_, _, _, _, _], _ => rfl⟩
theorem u__law_inner {K : PySem.W.Frag} (c : He.SaysD fa fn K) : ∃ fd, FnP K "_law_inner" 28 fd ∧ Binds K fd ["formula"] [] := by
  obtain ⟨fd, F⟩ := c.def_ 16 (d := ⟨("_law_inner", none), "_law_inner", "_law_inner", defArgs (top 28), defBody (top 28), defScope (top 28), [], []⟩) rfl
  exact ⟨fd, F, FunD.bindsN (ps := ["formula"]) F fun _ _ _ _ _ _ us hl => match us, hl with | [_], _ => rfl⟩
theorem u__law_free {K : PySem.W.Frag} (c : He.SaysD fa fn K) : ∃ fd, FnP K "_law_free" 29 fd ∧ Binds K fd ["formula"] [] := by
  obtain ⟨fd, F⟩ := c.def_ 17 (d := ⟨("_law_free", none), "_law_free", "_law_free", defArgs (top 29), defBody (top 29), defScope (top 29), [], []⟩) rfl
  exact ⟨fd, F, FunD.bindsN (ps := ["formula"]) F fun _ _ _ _ _ _ us hl => match us, hl with | [_], _ => rfl⟩
theorem u__law_depth {K : PySem.W.Frag} (c : He.SaysD fa fn K) : ∃ fd, FnP K "_law_depth" 30 fd ∧ Binds K fd ["formula"] [] := by
  obtain ⟨fd, F⟩ := c.def_ 18 (d := ⟨("_law_depth", none), "_law_depth", "_law_depth", defArgs (top 30), defBody (top 30), defScope (top 30), [], []⟩) rfl
  exact ⟨fd, F, FunD.bindsN (ps := ["formula"]) F fun _ _ _ _ _ _ us hl => match us, hl with | [_], _ => rfl⟩
theorem u__law_fits {K : PySem.W.Frag} (c : He.SaysD fa fn K) : ∃ fd, FnP K "_law_fits" 31 fd ∧ Binds K fd ["kind", "formula"] [] := by
  obtain ⟨fd, F⟩ := c.def_ 19 (d := ⟨("_law_fits", none), "_law_fits", "_law_fits", defArgs (top 31), defBody (top 31), defScope (top 31), [], []⟩) rfl
  exact ⟨fd, F, FunD.bindsN (ps := ["kind", "formula"]) F fun _ _ _ _ _ _ us hl => match us, hl with | [_, _], _ => rfl⟩
theorem u__law_told {K : PySem.W.Frag} (c : He.SaysD fa fn K) : ∃ fd, FnP K "_law_told" 32 fd ∧ Binds K fd ["kind", "formula", "closed"] [] := by
  obtain ⟨fd, F⟩ := c.def_ 20 (d := ⟨("_law_told", none), "_law_told", "_law_told", defArgs (top 32), defBody (top 32), defScope (top 32), [], []⟩) rfl
  exact ⟨fd, F, FunD.bindsN (ps := ["kind", "formula", "closed"]) F fun _ _ _ _ _ _ us hl => match us, hl with | [_, _, _], _ => rfl⟩
theorem u_law {K : PySem.W.Frag} (c : He.SaysD fa fn K) : ∃ fd, FnP K "law" 33 fd ∧ Binds K fd ["script"] [] := by
  obtain ⟨fd, F⟩ := c.def_ 21 (d := ⟨("law", none), "law", "law", defArgs (top 33), defBody (top 33), defScope (top 33), [], []⟩) rfl
  exact ⟨fd, F, FunD.bindsN (ps := ["script"]) F fun _ _ _ _ _ _ us hl => match us, hl with | [_], _ => rfl⟩
theorem fc_of {K : PySem.W.Frag} {mg : Str → Option Value} {base : Heap} (X : K.In base) (G : base.Ns mainGlobals mg) (c : He.SaysD fa fn K) (c2 : ex K = true) : Fc K mg := ⟨He.free_ok X G (c.fact 22 (f := .free "abs") rfl),
  He.free_ok X G (c.fact 23 (f := .free "all") rfl),
  He.free_ok X G (c.fact 24 (f := .free "bool") rfl),
  He.free_ok X G (c.fact 25 (f := .free "dict") rfl),
  He.free_ok X G (c.fact 26 (f := .free "int") rfl),
  He.free_ok X G (c.fact 27 (f := .free "isinstance") rfl),
  He.free_ok X G (c.fact 28 (f := .free "len") rfl),
  He.free_ok X G (c.fact 29 (f := .free "list") rfl),
  He.free_ok X G (c.fact 30 (f := .free "max") rfl),
  He.free_ok X G (c.fact 31 (f := .free "range") rfl),
  He.free_ok X G (c.fact 32 (f := .free "set") rfl),
  He.free_ok X G (c.fact 33 (f := .free "sorted") rfl),
  He.free_ok X G (c.fact 34 (f := .free "str") rfl),
  He.free_ok X G (c.fact 35 (f := .free "tuple") rfl),
  He.int_ok X G (c.fact 36 (f := .int "MOST_DEPTH" 40) rfl),
  He.int_ok X G (c.fact 37 (f := .int "MOST_FREE" 6) rfl),
  He.str_ok X G (c.fact 38 (f := .str "LETTERS" (sOf [97, 98, 99, 100, 101, 102, 103, 104, 105, 106, 107, 108, 109, 110, 111, 112, 113, 114, 115, 116, 117, 118, 119, 120, 121, 122])) rfl),
  ⟨He.glo_ok X G (c.fact 39 (f := .glo "ATOMS") rfl), fun g H => GH.tup_txt _ (ex_at c2 0) g H⟩,
  ⟨He.glo_ok X G (c.fact 40 (f := .glo "QUANTIFIERS") rfl), fun g H => GH.tup_txt _ (ex_at c2 1) g H⟩,
  ⟨(He.exc_ok (c.fact 41 (f := .exc (sOf [83, 97, 121, 69, 114, 114, 111, 114])) rfl)).1, (He.exc_ok (c.fact 41 (f := .exc (sOf [83, 97, 121, 69, 114, 114, 111, 114])) rfl)).2.1, (He.exc_ok (c.fact 41 (f := .exc (sOf [83, 97, 121, 69, 114, 114, 111, 114])) rfl)).2.2.1, (He.exc_ok (c.fact 41 (f := .exc (sOf [83, 97, 121, 69, 114, 114, 111, 114])) rfl)).2.2.2, He.glo_ok X G (c.fact 42 (f := .glo (sOf [83, 97, 121, 69, 114, 114, 111, 114])) rfl)⟩,
  ⟨(He.exc_ok (c.fact 43 (f := .exc (sOf [73, 110, 118, 97, 108, 105, 100, 75, 105, 110, 100])) rfl)).1, (He.exc_ok (c.fact 43 (f := .exc (sOf [73, 110, 118, 97, 108, 105, 100, 75, 105, 110, 100])) rfl)).2.1, (He.exc_ok (c.fact 43 (f := .exc (sOf [73, 110, 118, 97, 108, 105, 100, 75, 105, 110, 100])) rfl)).2.2.1, (He.exc_ok (c.fact 43 (f := .exc (sOf [73, 110, 118, 97, 108, 105, 100, 75, 105, 110, 100])) rfl)).2.2.2, He.glo_ok X G (c.fact 44 (f := .glo (sOf [73, 110, 118, 97, 108, 105, 100, 75, 105, 110, 100])) rfl)⟩,
  ⟨(He.exc_ok (c.fact 45 (f := .exc (sOf [73, 110, 118, 97, 108, 105, 100, 83, 101, 110, 116, 101, 110, 99, 101])) rfl)).1, (He.exc_ok (c.fact 45 (f := .exc (sOf [73, 110, 118, 97, 108, 105, 100, 83, 101, 110, 116, 101, 110, 99, 101])) rfl)).2.1, (He.exc_ok (c.fact 45 (f := .exc (sOf [73, 110, 118, 97, 108, 105, 100, 83, 101, 110, 116, 101, 110, 99, 101])) rfl)).2.2.1, (He.exc_ok (c.fact 45 (f := .exc (sOf [73, 110, 118, 97, 108, 105, 100, 83, 101, 110, 116, 101, 110, 99, 101])) rfl)).2.2.2, He.glo_ok X G (c.fact 46 (f := .glo (sOf [73, 110, 118, 97, 108, 105, 100, 83, 101, 110, 116, 101, 110, 99, 101])) rfl)⟩,
  (by intro p hp; simp only [List.mem_cons, List.not_mem_nil, or_false] at hp; rcases hp with rfl | rfl | rfl; exact He.exm_ok (c.fact 47 (f := .exm (sOf [83, 97, 121, 69, 114, 114, 111, 114]) (sOf [73, 110, 118, 97, 108, 105, 100, 83, 101, 110, 116, 101, 110, 99, 101]) false) rfl); exact He.exm_ok (c.fact 48 (f := .exm (sOf [73, 110, 118, 97, 108, 105, 100, 75, 105, 110, 100]) (sOf [73, 110, 118, 97, 108, 105, 100, 83, 101, 110, 116, 101, 110, 99, 101]) false) rfl); exact He.exm_ok (c.fact 49 (f := .exm (sOf [73, 110, 118, 97, 108, 105, 100, 83, 101, 110, 116, 101, 110, 99, 101]) (sOf [73, 110, 118, 97, 108, 105, 100, 83, 101, 110, 116, 101, 110, 99, 101]) true) rfl)),
  ⟨GH.excCB_ok (ex_at c2 2), GH.kitB_ok' (ex_at c2 3), He.glo_ok X G (c.fact 42 (f := .glo (sOf [83, 97, 121, 69, 114, 114, 111, 114])) rfl)⟩⟩
theorem all_of {P : Program} {w : World} {K : PySem.W.Frag} {mg : Str → Option Value} {base hh : Heap} (X : K.In hh) (G : hh.Ns mainGlobals mg) (c : He.SaysD fa fn K) (c2 : ex K = true) : ∀ k, AllK P w K mg base sig k (lev D k) := by
  have fc := fc_of X G c c2
  obtain ⟨fd0, u0, b0⟩ := u_check_kind c
  have g0 := He.glo_ok X G (c.fact 0 (f := .glo "check_kind") rfl)
  obtain ⟨fd1, u1, b1⟩ := u_atom_variables c
  have g1 := He.glo_ok X G (c.fact 1 (f := .glo "atom_variables") rfl)
  obtain ⟨fd2, u2, b2⟩ := u_inner c
  have g2 := He.glo_ok X G (c.fact 2 (f := .glo "inner") rfl)
  obtain ⟨fd3, u3, b3⟩ := u_free_variables c
  have g3 := He.glo_ok X G (c.fact 3 (f := .glo "free_variables") rfl)
  obtain ⟨fd4, u4, b4⟩ := u_depth c
  have g4 := He.glo_ok X G (c.fact 4 (f := .glo "depth") rfl)
  obtain ⟨fd5, u5, b5⟩ := u_check_parts c
  have g5 := He.glo_ok X G (c.fact 5 (f := .glo "check_parts") rfl)
  obtain ⟨fd6, u6, b6⟩ := u_check_formula c
  have g6 := He.glo_ok X G (c.fact 6 (f := .glo "check_formula") rfl)
  obtain ⟨fd7, u7, b7⟩ := u_check_sentence c
  have g7 := He.glo_ok X G (c.fact 7 (f := .glo "check_sentence") rfl)
  obtain ⟨fd8, u8, b8⟩ := u__law_tape c
  have g8 := He.glo_ok X G (c.fact 8 (f := .glo "_law_tape") rfl)
  obtain ⟨fd9, u9, b9⟩ := u__law_take c
  have g9 := He.glo_ok X G (c.fact 9 (f := .glo "_law_take") rfl)
  obtain ⟨fd10, u10, b10⟩ := u__law_is_integer c
  have g10 := He.glo_ok X G (c.fact 10 (f := .glo "_law_is_integer") rfl)
  obtain ⟨fd11, u11, b11⟩ := u__law_same_items c
  have g11 := He.glo_ok X G (c.fact 11 (f := .glo "_law_same_items") rfl)
  obtain ⟨fd12, u12, b12⟩ := u__law_same c
  have g12 := He.glo_ok X G (c.fact 12 (f := .glo "_law_same") rfl)
  obtain ⟨fd13, u13, b13⟩ := u__law_kind c
  have g13 := He.glo_ok X G (c.fact 13 (f := .glo "_law_kind") rfl)
  obtain ⟨fd14, u14, b14⟩ := u__law_atom c
  have g14 := He.glo_ok X G (c.fact 14 (f := .glo "_law_atom") rfl)
  obtain ⟨fd15, u15, b15⟩ := u__law_matrix c
  have g15 := He.glo_ok X G (c.fact 15 (f := .glo "_law_matrix") rfl)
  obtain ⟨fd16, u16, b16⟩ := u__law_inner c
  have g16 := He.glo_ok X G (c.fact 16 (f := .glo "_law_inner") rfl)
  obtain ⟨fd17, u17, b17⟩ := u__law_free c
  have g17 := He.glo_ok X G (c.fact 17 (f := .glo "_law_free") rfl)
  obtain ⟨fd18, u18, b18⟩ := u__law_depth c
  have g18 := He.glo_ok X G (c.fact 18 (f := .glo "_law_depth") rfl)
  obtain ⟨fd19, u19, b19⟩ := u__law_fits c
  have g19 := He.glo_ok X G (c.fact 19 (f := .glo "_law_fits") rfl)
  obtain ⟨fd20, u20, b20⟩ := u__law_told c
  have g20 := He.glo_ok X G (c.fact 20 (f := .glo "_law_told") rfl)
  obtain ⟨fd21, u21, b21⟩ := u_law c
  have g21 := He.glo_ok X G (c.fact 21 (f := .glo "law") rfl)
  refine levels ?_ ?_
  · intro j x ps e
    match j, e with
    | 0, e => exact (by have e : some (("check_kind" : Str), (["kind"] : List Str)) = some (x, ps) := e; cases e; exact ⟨g0, u0.kp, fd0, b0⟩)
    | 1, e => exact (by have e : some (("atom_variables" : Str), (["formula"] : List Str)) = some (x, ps) := e; cases e; exact ⟨g1, u1.kp, fd1, b1⟩)
    | 2, e => exact (by have e : some (("inner" : Str), (["formula"] : List Str)) = some (x, ps) := e; cases e; exact ⟨g2, u2.kp, fd2, b2⟩)
    | 3, e => exact (by have e : some (("free_variables" : Str), (["formula"] : List Str)) = some (x, ps) := e; cases e; exact ⟨g3, u3.kp, fd3, b3⟩)
    | 4, e => exact (by have e : some (("depth" : Str), (["formula"] : List Str)) = some (x, ps) := e; cases e; exact ⟨g4, u4.kp, fd4, b4⟩)
    | 5, e => exact (by have e : some (("check_parts" : Str), (["kind", "formula"] : List Str)) = some (x, ps) := e; cases e; exact ⟨g5, u5.kp, fd5, b5⟩)
    | 6, e => exact (by have e : some (("check_formula" : Str), (["kind", "formula"] : List Str)) = some (x, ps) := e; cases e; exact ⟨g6, u6.kp, fd6, b6⟩)
    | 7, e => exact (by have e : some (("check_sentence" : Str), (["kind", "formula"] : List Str)) = some (x, ps) := e; cases e; exact ⟨g7, u7.kp, fd7, b7⟩)
    | 8, e => exact (by have e : some (("_law_tape" : Str), (["script"] : List Str)) = some (x, ps) := e; cases e; exact ⟨g8, u8.kp, fd8, b8⟩)
    | 9, e => exact (by have e : some (("_law_take" : Str), (["tape", "many"] : List Str)) = some (x, ps) := e; cases e; exact ⟨g9, u9.kp, fd9, b9⟩)
    | 10, e => exact (by have e : some (("_law_is_integer" : Str), (["actual"] : List Str)) = some (x, ps) := e; cases e; exact ⟨g10, u10.kp, fd10, b10⟩)
    | 11, e => exact (by have e : some (("_law_same_items" : Str), (["actual", "expected"] : List Str)) = some (x, ps) := e; cases e; exact ⟨g11, u11.kp, fd11, b11⟩)
    | 12, e => exact (by have e : some (("_law_same" : Str), (["actual", "expected"] : List Str)) = some (x, ps) := e; cases e; exact ⟨g12, u12.kp, fd12, b12⟩)
    | 13, e => exact (by have e : some (("_law_kind" : Str), (["tape"] : List Str)) = some (x, ps) := e; cases e; exact ⟨g13, u13.kp, fd13, b13⟩)
    | 14, e => exact (by have e : some (("_law_atom" : Str), (["tape", "kind", "singles", "sets"] : List Str)) = some (x, ps) := e; cases e; exact ⟨g14, u14.kp, fd14, b14⟩)
    | 15, e => exact (by have e : some (("_law_matrix" : Str), (["tape", "kind", "singles", "sets", "deep"] : List Str)) = some (x, ps) := e; cases e; exact ⟨g15, u15.kp, fd15, b15⟩)
    | 16, e => exact (by have e : some (("_law_inner" : Str), (["formula"] : List Str)) = some (x, ps) := e; cases e; exact ⟨g16, u16.kp, fd16, b16⟩)
    | 17, e => exact (by have e : some (("_law_free" : Str), (["formula"] : List Str)) = some (x, ps) := e; cases e; exact ⟨g17, u17.kp, fd17, b17⟩)
    | 18, e => exact (by have e : some (("_law_depth" : Str), (["formula"] : List Str)) = some (x, ps) := e; cases e; exact ⟨g18, u18.kp, fd18, b18⟩)
    | 19, e => exact (by have e : some (("_law_fits" : Str), (["kind", "formula"] : List Str)) = some (x, ps) := e; cases e; exact ⟨g19, u19.kp, fd19, b19⟩)
    | 20, e => exact (by have e : some (("_law_told" : Str), (["kind", "formula", "closed"] : List Str)) = some (x, ps) := e; cases e; exact ⟨g20, u20.kp, fd20, b20⟩)
    | 21, e => exact (by have e : some (("law" : Str), (["script"] : List Str)) = some (x, ps) := e; cases e; exact ⟨g21, u21.kp, fd21, b21⟩)
    | n + 22, e => exact (by have e : (none : Option (Str × List Str)) = some (x, ps) := e; cases e)
  · intro k Γ F j x ps e
    match j, e with
    | 0, e => exact (by have e : some (("check_kind" : Str), (["kind"] : List Str)) = some (x, ps) := e; cases e; exact ⟨⟨fd0, k_check_kind F fc u0, b0⟩, g0, u0.kp⟩)
    | 1, e => exact (by have e : some (("atom_variables" : Str), (["formula"] : List Str)) = some (x, ps) := e; cases e; exact ⟨⟨fd1, k_atom_variables F fc u1, b1⟩, g1, u1.kp⟩)
    | 2, e => exact (by have e : some (("inner" : Str), (["formula"] : List Str)) = some (x, ps) := e; cases e; exact ⟨⟨fd2, k_inner F fc u2, b2⟩, g2, u2.kp⟩)
    | 3, e => exact (by have e : some (("free_variables" : Str), (["formula"] : List Str)) = some (x, ps) := e; cases e; exact ⟨⟨fd3, k_free_variables F fc u3, b3⟩, g3, u3.kp⟩)
    | 4, e => exact (by have e : some (("depth" : Str), (["formula"] : List Str)) = some (x, ps) := e; cases e; exact ⟨⟨fd4, k_depth F fc u4, b4⟩, g4, u4.kp⟩)
    | 5, e => exact (by have e : some (("check_parts" : Str), (["kind", "formula"] : List Str)) = some (x, ps) := e; cases e; exact ⟨⟨fd5, k_check_parts F fc u5, b5⟩, g5, u5.kp⟩)
    | 6, e => exact (by have e : some (("check_formula" : Str), (["kind", "formula"] : List Str)) = some (x, ps) := e; cases e; exact ⟨⟨fd6, k_check_formula F fc u6, b6⟩, g6, u6.kp⟩)
    | 7, e => exact (by have e : some (("check_sentence" : Str), (["kind", "formula"] : List Str)) = some (x, ps) := e; cases e; exact ⟨⟨fd7, k_check_sentence F fc u7, b7⟩, g7, u7.kp⟩)
    | 8, e => exact (by have e : some (("_law_tape" : Str), (["script"] : List Str)) = some (x, ps) := e; cases e; exact ⟨⟨fd8, k__law_tape F fc u8, b8⟩, g8, u8.kp⟩)
    | 9, e => exact (by have e : some (("_law_take" : Str), (["tape", "many"] : List Str)) = some (x, ps) := e; cases e; exact ⟨⟨fd9, k__law_take F fc u9, b9⟩, g9, u9.kp⟩)
    | 10, e => exact (by have e : some (("_law_is_integer" : Str), (["actual"] : List Str)) = some (x, ps) := e; cases e; exact ⟨⟨fd10, k__law_is_integer F fc u10, b10⟩, g10, u10.kp⟩)
    | 11, e => exact (by have e : some (("_law_same_items" : Str), (["actual", "expected"] : List Str)) = some (x, ps) := e; cases e; exact ⟨⟨fd11, k__law_same_items F fc u11, b11⟩, g11, u11.kp⟩)
    | 12, e => exact (by have e : some (("_law_same" : Str), (["actual", "expected"] : List Str)) = some (x, ps) := e; cases e; exact ⟨⟨fd12, k__law_same F fc u12, b12⟩, g12, u12.kp⟩)
    | 13, e => exact (by have e : some (("_law_kind" : Str), (["tape"] : List Str)) = some (x, ps) := e; cases e; exact ⟨⟨fd13, k__law_kind F fc u13, b13⟩, g13, u13.kp⟩)
    | 14, e => exact (by have e : some (("_law_atom" : Str), (["tape", "kind", "singles", "sets"] : List Str)) = some (x, ps) := e; cases e; exact ⟨⟨fd14, k__law_atom F fc u14, b14⟩, g14, u14.kp⟩)
    | 15, e => exact (by have e : some (("_law_matrix" : Str), (["tape", "kind", "singles", "sets", "deep"] : List Str)) = some (x, ps) := e; cases e; exact ⟨⟨fd15, k__law_matrix F fc u15, b15⟩, g15, u15.kp⟩)
    | 16, e => exact (by have e : some (("_law_inner" : Str), (["formula"] : List Str)) = some (x, ps) := e; cases e; exact ⟨⟨fd16, k__law_inner F fc u16, b16⟩, g16, u16.kp⟩)
    | 17, e => exact (by have e : some (("_law_free" : Str), (["formula"] : List Str)) = some (x, ps) := e; cases e; exact ⟨⟨fd17, k__law_free F fc u17, b17⟩, g17, u17.kp⟩)
    | 18, e => exact (by have e : some (("_law_depth" : Str), (["formula"] : List Str)) = some (x, ps) := e; cases e; exact ⟨⟨fd18, k__law_depth F fc u18, b18⟩, g18, u18.kp⟩)
    | 19, e => exact (by have e : some (("_law_fits" : Str), (["kind", "formula"] : List Str)) = some (x, ps) := e; cases e; exact ⟨⟨fd19, k__law_fits F fc u19, b19⟩, g19, u19.kp⟩)
    | 20, e => exact (by have e : some (("_law_told" : Str), (["kind", "formula", "closed"] : List Str)) = some (x, ps) := e; cases e; exact ⟨⟨fd20, k__law_told F fc u20, b20⟩, g20, u20.kp⟩)
    | 21, e => exact (by have e : some (("law" : Str), (["script"] : List Str)) = some (x, ps) := e; cases e; exact ⟨⟨fd21, k_law F fc u21, b21⟩, g21, u21.kp⟩)
    | n + 22, e => exact (by have e : (none : Option (Str × List Str)) = some (x, ps) := e; cases e)
theorem facts {P : Program} {w : World} {K : PySem.W.Frag} {h : Heap} {mg : Str → Option Value} {f : Addr} (X : K.In h) (G : h.Ns mainGlobals mg) (hfa : mg ("law" : Str) = some (.ref f)) (c : He.SaysD fa fn K) (c2 : ex K = true) :
    ∃ fd : FuncData, (∀ (s : Shared) (v : Value), BindsTo s fd ⟨[v], []⟩ [("script", v)]) ∧ ∀ base : Heap, K.In base → base.Ns mainGlobals mg → FnOk P w K mg base (CXA P) 100 f fd ["script"] (spG K (lev D 100 21) 1) := by
  obtain ⟨fd, F, b⟩ := u_law c
  have g := He.glo_ok X G (c.fact 21 (f := .glo "law") rfl)
  have e := hfa.symm.trans g
  cases e
  have b' := FunD.bindsA (ps := ["script"]) F fun _ _ _ _ _ _ us hl => match us, hl with | [_], _ => rfl
  refine ⟨fd, fun s v => b' s [v] rfl, fun base X2 G2 => ?_⟩
  exact fn_cxa (k_law (all_of X2 G2 c c2 99) (fc_of X2 G2 c c2) F)
end L03
open PySem PySem.W PySem.Calls PyProof.Rows
theorem PySem.Challenge.cw_grovehouse_k03_variables_and_rules_holds : PySem.Challenge.rw_grovehouse_k03_variables_and_rules.Holds := by
  w_on; o_law
  refine HandSHeadRun.head_any (r := OpenLaw.row PySem.Challenge.rw_grovehouse_k03_variables_and_rules) (q := view (OpenLaw.row PySem.Challenge.rw_grovehouse_k03_variables_and_rules).prog [33]) (H := L03.hk) (ob := L03.ob) (M := 3000) (loose := L03.nm) (d := HandSHeadRun.topDef (OpenLaw.row PySem.Challenge.rw_grovehouse_k03_variables_and_rules).prog 33) (kwd := []) L03.ob_eq
    (by kernel_rfl) (fun s => by kernel_rfl) L03.run (by kernel_rfl) (by kernel_rfl) (by kernel_rfl) (by rfl) (by first | assumption | decide +kernel) (by decide +kernel) ⟨rfl, rfl, rfl, rfl, rfl, by decide +kernel⟩ ?hw ?hc
  case hw => w_witness2
  case hc =>
    refine L2.walk_ofE (l := PySem.Challenge.rw_grovehouse_k03_variables_and_rules) (n := 63) (k := 100) (x := "script") (CX := GH.CXA (PySem.Challenge.rw_grovehouse_k03_variables_and_rules).prog) rfl (by decide) (by kernel_rfl) ⟨rfl, by decide, by decide⟩ ?F (fun H s e s' z => GH.cxa_none H s e s' z)
    intro w mg fa h Y G hmg0
    obtain ⟨K, KX, c⟩ := Y
    have hmg : mg ("law" : PySem.Str) = some (.ref fa) := by
      have e : (HandSHeadRun.topDef (OpenLaw.row PySem.Challenge.rw_grovehouse_k03_variables_and_rules).prog 33).name = ("law" : PySem.Str) := by kernel_rfl
      rw [← e]
      exact hmg0
    obtain ⟨fd, hb, hF⟩ := L03.facts (P := (PySem.Challenge.rw_grovehouse_k03_variables_and_rules).prog) (w := w) KX G hmg c.t.d c.more
    exact ⟨K, fd, _, KX, hb, fun H a ns hl hO hS => GH.sp_law hO hS (L03.law_true ns hl), hF⟩
