import PyProof.Rows.All
import Wide.All
import OpenK.AllK
import Wide.FinOn
import HandS.ForMost
import HandS.Exc
import HandS.TryOnly
import HandS.ExcOwn
import HandS.WordsExc
import HandS.Defaults
import HandS.HeadHook1
import HandS.TupAny
import HandS.Style
import HandS.Conv
import HandS.Zip
import HandS.IsInst
import HandS.Flow
import HandS.DictTup
import HandS.TryMany
import HandS.Lambda
import HandS.DictComp
import HandS.Strs
import HandS.SetKeys
import HandS.SortKw
import HandS.ExcInit
import HandS.Nested
import HandS.Walk
import HandS.CallSlots
import PyProof.P3In
import PyProof.P3Eq
import KE.SortData
import HandS.HeadEnd
import KE.GoesMore
import KE.KStateDown
import Lean
import HandS.Base
import HandS.Call
import HandS.Ends
import HandS.More
import HandS.Words
import HandS.Head0
import HandS.Head1
import HandS.Head2
import HandS.HeadHook2
import PySem.Challenge.RW_grovehouse_k06_plain_meaning
set_option Elab.async false
set_option linter.all false
set_option maxRecDepth 100000
set_option maxHeartbeats 1000000
/-! Values without a heap for tuples and for lists that nobody writes; a small heap of own objects; how both lie in the abstract heap of the hand layer. -/
set_option autoImplicit false
namespace GH
open PySem PySem.Spec PyProof.Rows L2

def sOf (x : List Nat) : Str := ⟨x.toArray⟩
theorem sOf_inj {x y : List Nat} (h : sOf x = sOf y) : x = y := by
  have := congrArg (fun s : Str => s.cps.toList) h
  simpa [sOf] using this
theorem sOf_len (x : List Nat) : (sOf x).length = x.length := by simp [sOf, Str.length]

/-- a value: tuples and unwritten lists as they are, an object of the small heap by its place -/
inductive Val where
  | non | bl (b : Bool) | int (i : Int) | str (s : List Nat)
  | tup (l : List Val) | lst (l : List Val) | fz (l : List Val) | ref (a : Nat)
  deriving Inhabited

/-- an object that may be written -/
inductive Ob where
  | lst (l : List Val)
  | dic (l : List (Val × Val))
  | ins (c : List Nat) (fs : List (List Nat × Val))
  deriving Inhabited
abbrev Hv := List Ob
abbrev Loc := List (Option Val)

/-- the ghost: where the small heap's objects lie; what else is being written -/
structure Gh where
  m : List Addr
  r : List Addr
def Gh.own (g : Gh) (a : Addr) : Prop := a ∈ g.m ∨ a ∈ g.r

/-- a list that nobody writes at all: the script, a list at the top -/
def FzL (K : PySem.W.Frag) (H : Hp) (a : Addr) (xs : List V) : Prop := (∃ o, H a = some (.frz o (.lst xs))) ∨
  ∃ (o : Obj) (its : Array Value) (n : Nat), K.lookup a = some o ∧ o.cls = .type "list" ∧ o.dict = none ∧ o.data = .seq its n ∧ its.size ≤ sizeLine ∧ Vals xs its.toList
theorem FzL.imp {K : PySem.W.Frag} {H H' : Hp} {a : Addr} {xs : List V} (s : FzL K H a xs) (f : ∀ o, H a = some (.frz o (.lst xs)) → H' a = some (.frz o (.lst xs))) : FzL K H' a xs := s.elim (fun ⟨o, e⟩ => .inl ⟨o, f o e⟩) .inr
theorem FzL.sq {K : PySem.W.Frag} {H : Hp} {a : Addr} {xs : List V} (s : FzL K H a xs) : SqL K H a xs := s.elim (fun ⟨o, e⟩ => .inl (.inr ⟨o, e⟩)) .inr
mutual
def VR (K : PySem.W.Frag) (g : Gh) (H : Hp) : Val → V → Prop
  | .non, x => x = .non
  | .bl b, x => x = .bl b
  | .int i, x => x = .int i
  | .str s, x => x = .str (sOf s)
  | .tup l, x => ∃ a xs, x = .ref a ∧ SqT K H a xs ∧ VRs K g H l xs
  | .lst l, x => ∃ a xs, x = .ref a ∧ ¬ g.own a ∧ H a = some (.lst xs) ∧ VRs K g H l xs
  | .fz l, x => ∃ a xs, x = .ref a ∧ FzL K H a xs ∧ VRs K g H l xs
  | .ref i, x => ∃ a, x = .ref a ∧ g.m[i]? = some a
def VRs (K : PySem.W.Frag) (g : Gh) (H : Hp) : List Val → List V → Prop
  | [], xs => xs = []
  | v :: l, xs => ∃ x r, xs = x :: r ∧ VR K g H v x ∧ VRs K g H l r
end

def keyOf : Val → Option Key
  | .int i => some (.inl i)
  | .str s => some (.inr (sOf s))
  | _ => none
/-- a class by its name -/
abbrev clsA (K : PySem.W.Frag) (c : List Nat) : Addr := He.ga K (sOf c)
/-- the fields, by name -/
def FR (K : PySem.W.Frag) (g : Gh) (H : Hp) (fs : List (List Nat × Val)) (gs : List (Str × V)) : Prop :=
  gs.map (·.1) = fs.map (fun p => sOf p.1) ∧ VRs K g H (fs.map (·.2)) (gs.map (·.2))
def DR (K : PySem.W.Frag) (g : Gh) (H : Hp) (l : List (Val × Val)) (ks : List (Key × V)) : Prop :=
  l.map (fun p => keyOf p.1) = ks.map (fun q => some q.1) ∧ VRs K g H (l.map (·.2)) (ks.map (·.2))
def OR (K : PySem.W.Frag) (g : Gh) (H : Hp) (a : Addr) : Ob → Prop
  | .lst l => ∃ xs, H a = some (.lst xs) ∧ VRs K g H l xs
  | .dic l => ∃ ks, H a = some (.dK ks) ∧ DR K g H l ks
  | .ins c fs => ∃ dx gs, H a = some (.ins (clsA K c) dx gs) ∧ FR K g H fs gs
structure HR (K : PySem.W.Frag) (g : Gh) (H : Hp) (h : Hv) : Prop where
  len : g.m.length = h.length
  nd : g.m.Nodup
  dis : ∀ a ∈ g.m, a ∉ g.r
  al : ∀ a ∈ g.r, ∃ o, H a = some o ∧ Mut (some o)
  obj : ∀ (i : Nat) o a, h[i]? = some o → g.m[i]? = some a → OR K g H a o
structure SR (K : PySem.W.Frag) (g : Gh) (H : Hp) (l : Loc) (σ : L2.St) : Prop where
  len : l.length = σ.length
  at_ : ∀ (i : Nat) v, l[i]? = some (some v) → ∃ x, σ[i]? = some (some x) ∧ VR K g H v x
/-- .. what is being written may have grown -/
structure ExtS (g : Gh) (H : Hp) (g' : Gh) (H' : Hp) : Prop where
  m : ∃ t, g'.m = g.m ++ t ∧ ∀ b ∈ t, H b = none
  r : ∃ u, g'.r = u ++ g.r ∧ ∀ b ∈ u, H b = none
  keep : ∀ b o, H b = some o → b ∉ g.m → H' b = some o
structure Ext (g : Gh) (H : Hp) (g' : Gh) (H' : Hp) : Prop where
  m : ∃ t, g'.m = g.m ++ t ∧ ∀ b ∈ t, H b = none
  r : g'.r = g.r
  keep : ∀ b o, H b = some o → b ∉ g.m → H' b = some o
  there : ∀ b o, H b = some o → ∃ o', H' b = some o'

section
variable {K : PySem.W.Frag} {g g' g'' : Gh} {H H' H'' : Hp} {h : Hv}
theorem Ext.refl : Ext g H g H := ⟨⟨[], by simp, by simp⟩, rfl, fun _ _ e _ => e, fun b o e => ⟨o, e⟩⟩
theorem Ext.trans (a : Ext g H g' H') (b : Ext g' H' g'' H'') : Ext g H g'' H'' := by
  obtain ⟨t, e1, n1⟩ := a.m
  obtain ⟨u, e2, n2⟩ := b.m
  refine ⟨⟨t ++ u, by rw [e2, e1, List.append_assoc], fun c hc => ?_⟩, b.r.trans a.r, fun c o e hn => ?_, fun c o e => ?_⟩
  · rcases List.mem_append.mp hc with hc | hc
    · exact n1 c hc
    · cases q : H c with
      | none => rfl
      | some o =>
        obtain ⟨o', e'⟩ := a.there c o q
        rw [n2 c hc] at e'
        cases e'
  · refine b.keep c o (a.keep c o e hn) ?_
    rw [e1]
    intro hc
    rcases List.mem_append.mp hc with hc | hc
    · exact hn hc
    · rw [n1 c hc] at e; cases e
  · obtain ⟨o', e'⟩ := a.there c o e
    exact b.there c o' e'
theorem HR.own_there (R : HR K g H h) {a : Addr} (ha : g.own a) : ∃ o, H a = some o := by
  rcases ha with ha | ha
  · obtain ⟨i, hi, e⟩ := List.getElem_of_mem ha
    have hi' : i < h.length := by rw [← R.len]; exact hi
    have q := R.obj i h[i] a (by simp [hi']) (by rw [← e]; simp [hi])
    cases ho : h[i] with
    | lst l => rw [ho] at q; obtain ⟨_, e, _⟩ := q; exact ⟨_, e⟩
    | dic l => rw [ho] at q; obtain ⟨_, e, _⟩ := q; exact ⟨_, e⟩
    | ins c f => rw [ho] at q; obtain ⟨_, _, e, _⟩ := q; exact ⟨_, e⟩
  · obtain ⟨o, e, _⟩ := R.al a ha
    exact ⟨_, e⟩
theorem HR.fresh (R : HR K g H h) {a : Addr} (ha : H a = none) : ¬ g.own a := fun q => by
  obtain ⟨o, e⟩ := R.own_there q
  rw [ha] at e; cases e
/-- what is owned is no tuple and not locked -/
theorem HR.kind (R : HR K g H h) {a : Addr} (ha : a ∈ g.m) : (∃ xs, H a = some (.lst xs)) ∨ (∃ ks, H a = some (.dK ks)) ∨ ∃ C dx gs, H a = some (.ins C dx gs) := by
  obtain ⟨i, hi, e⟩ := List.getElem_of_mem ha
  have hi' : i < h.length := by rw [← R.len]; exact hi
  have q := R.obj i h[i] a (by simp [hi']) (by rw [← e]; simp [hi])
  cases ho : h[i] with
  | lst l => rw [ho] at q; obtain ⟨_, e, _⟩ := q; exact .inl ⟨_, e⟩
  | dic l => rw [ho] at q; obtain ⟨_, e, _⟩ := q; exact .inr (.inl ⟨_, e⟩)
  | ins c f => rw [ho] at q; obtain ⟨_, _, e, _⟩ := q; exact .inr (.inr ⟨_, _, _, e⟩)
theorem HR.not_tup (R : HR K g H h) {a : Addr} {xs : List V} (e : Rd H a (.tup xs)) : a ∉ g.m := fun ha => by
  rcases R.kind ha with ⟨_, q⟩ | ⟨_, q⟩ | ⟨_, _, _, q⟩ <;> rcases e with e | ⟨_, e⟩ <;> rw [q] at e <;> cases e
theorem Ext.s (E : Ext g H g' H') : ExtS g H g' H' := ⟨E.m, ⟨[], by rw [E.r]; rfl, by simp⟩, E.keep⟩
theorem ExtS.rd (E : ExtS g H g' H') {a : Addr} {u : HO} (ha : a ∉ g.m) (e : Rd H a u) : Rd H' a u := by
  rcases e with e | ⟨o, e⟩
  · exact .inl (E.keep _ _ e ha)
  · exact .inr ⟨o, E.keep _ _ e ha⟩
theorem ExtS.nown (E : ExtS g H g' H') {a : Addr} {o : HO} (ha : ¬ g.own a) (e : H a = some o) : ¬ g'.own a := fun q => by
  obtain ⟨t, em, n⟩ := E.m
  obtain ⟨u, er, n2⟩ := E.r
  rcases q with q | q
  · rw [em] at q
    rcases List.mem_append.mp q with q | q
    · exact ha (.inl q)
    · rw [n a q] at e; cases e
  · rw [er] at q
    rcases List.mem_append.mp q with q | q
    · rw [n2 a q] at e; cases e
    · exact ha (.inr q)
theorem Ext.rd (E : Ext g H g' H') {a : Addr} {u : HO} (ha : a ∉ g.m) (e : Rd H a u) : Rd H' a u := by
  rcases e with e | ⟨o, e⟩
  · exact .inl (E.keep _ _ e ha)
  · exact .inr ⟨o, E.keep _ _ e ha⟩
theorem Ext.nown (E : Ext g H g' H') {a : Addr} {o : HO} (ha : ¬ g.own a) (e : H a = some o) : ¬ g'.own a := fun q => by
  obtain ⟨t, em, n⟩ := E.m
  rcases q with q | q
  · rw [em] at q
    rcases List.mem_append.mp q with q | q
    · exact ha (.inl q)
    · rw [n a q] at e; cases e
  · rw [E.r] at q
    exact ha (.inr q)
theorem Rd.some {a : Addr} {u : HO} (e : Rd H a u) : ∃ o, H a = some o := by
  rcases e with e | ⟨o, e⟩
  · exact ⟨_, e⟩
  · exact ⟨_, e⟩
mutual
theorem VR.extS (R : HR K g H h) (E : ExtS g H g' H') : ∀ {v : Val} {x : V}, VR K g H v x → VR K g' H' v x
  | .non, x, q => by simpa only [VR] using q
  | .bl b, x, q => by simpa only [VR] using q
  | .int i, x, q => by simpa only [VR] using q
  | .str s, x, q => by simpa only [VR] using q
  | .tup l, x, q => by
    simp only [VR] at q ⊢
    obtain ⟨a, xs, e, s, r⟩ := q
    refine ⟨a, xs, e, ?_, VRs.extS R E r⟩
    rcases s with s | s
    · exact .inl (E.rd (R.not_tup s) s)
    · exact .inr s
  | .lst l, x, q => by
    simp only [VR] at q ⊢
    obtain ⟨a, xs, e, n, s, r⟩ := q
    exact ⟨a, xs, e, E.nown n s, E.keep _ _ s (fun z => n (.inl z)), VRs.extS R E r⟩
  | .fz l, x, q => by
    simp only [VR] at q ⊢
    obtain ⟨a, xs, e, s, r⟩ := q
    refine ⟨a, xs, e, s.imp fun o s => E.keep _ _ s fun ha => ?_, VRs.extS R E r⟩
    rcases R.kind ha with ⟨_, q⟩ | ⟨_, q⟩ | ⟨_, _, _, q⟩ <;> rw [q] at s <;> cases s
  | .ref i, x, q => by
    simp only [VR] at q ⊢
    obtain ⟨a, e, n⟩ := q
    obtain ⟨t, em, _⟩ := E.m
    refine ⟨a, e, ?_⟩
    rw [em, List.getElem?_append_left (List.getElem?_eq_some_iff.mp n).1]
    exact n
theorem VRs.extS (R : HR K g H h) (E : ExtS g H g' H') : ∀ {l : List Val} {xs : List V}, VRs K g H l xs → VRs K g' H' l xs
  | [], xs, q => by simpa only [VRs] using q
  | v :: l, xs, q => by
    simp only [VRs] at q ⊢
    obtain ⟨x, r, e, q1, q2⟩ := q
    exact ⟨x, r, e, VR.extS R E q1, VRs.extS R E q2⟩
end
theorem VR.ext (R : HR K g H h) (E : Ext g H g' H') {v : Val} {x : V} (q : VR K g H v x) : VR K g' H' v x := VR.extS R E.s q
theorem VRs.ext (R : HR K g H h) (E : Ext g H g' H') {l : List Val} {xs : List V} (q : VRs K g H l xs) : VRs K g' H' l xs := VRs.extS R E.s q
theorem SR.ext {l : Loc} {σ : L2.St} (S : SR K g H l σ) (R : HR K g H h) (E : Ext g H g' H') : SR K g' H' l σ :=
  ⟨S.len, fun i v e => by obtain ⟨x, e1, e2⟩ := S.at_ i v e; exact ⟨x, e1, e2.ext R E⟩⟩
end
section
variable {K : PySem.W.Frag} {g : Gh} {H : Hp}
theorem VRs.length : ∀ {l : List Val} {xs : List V}, VRs K g H l xs → l.length = xs.length
  | [], xs, q => by simp only [VRs] at q; subst q; rfl
  | v :: l, xs, q => by
    simp only [VRs] at q
    obtain ⟨x, r, e, _, q2⟩ := q
    subst e
    simp [VRs.length q2]
theorem VRs.get : ∀ {l : List Val} {xs : List V} {i : Nat} {v : Val}, VRs K g H l xs → l[i]? = some v → ∃ x, xs[i]? = some x ∧ VR K g H v x
  | [], xs, i, v, q, e => by simp at e
  | w :: l, xs, i, v, q, e => by
    simp only [VRs] at q
    obtain ⟨x, r, rfl, q1, q2⟩ := q
    cases i with
    | zero => simp at e; subst e; exact ⟨x, by simp, q1⟩
    | succ i =>
      obtain ⟨y, e1, e2⟩ := VRs.get (i := i) q2 (by simpa using e)
      exact ⟨y, by simpa using e1, e2⟩
theorem VRs.get' : ∀ {l : List Val} {xs : List V} {i : Nat} {x : V}, VRs K g H l xs → xs[i]? = some x → ∃ v, l[i]? = some v ∧ VR K g H v x
  | [], xs, i, v, q, e => by simp only [VRs] at q; subst q; simp at e
  | w :: l, xs, i, v, q, e => by
    simp only [VRs] at q
    obtain ⟨x, r, rfl, q1, q2⟩ := q
    cases i with
    | zero => simp at e; subst e; exact ⟨w, by simp, q1⟩
    | succ i =>
      obtain ⟨y, e1, e2⟩ := VRs.get' (i := i) q2 (by simpa using e)
      exact ⟨y, by simpa using e1, e2⟩
theorem VRs.append : ∀ {l l' : List Val} {xs xs' : List V}, VRs K g H l xs → VRs K g H l' xs' → VRs K g H (l ++ l') (xs ++ xs')
  | [], l', xs, xs', q, q' => by simp only [VRs] at q; subst q; simpa using q'
  | v :: l, l', xs, xs', q, q' => by
    simp only [VRs] at q
    obtain ⟨x, r, rfl, q1, q2⟩ := q
    show VRs K g H (v :: (l ++ l')) (x :: (r ++ xs'))
    simp only [VRs]
    exact ⟨x, _, rfl, q1, VRs.append q2 q'⟩
theorem VRs.nil : VRs K g H [] [] := by simp only [VRs]
theorem VRs.cons {v : Val} {x : V} {l : List Val} {xs : List V} (a : VR K g H v x) (b : VRs K g H l xs) : VRs K g H (v :: l) (x :: xs) := by
  simp only [VRs]; exact ⟨x, xs, rfl, a, b⟩
theorem VRs.one {v : Val} {x : V} (a : VR K g H v x) : VRs K g H [v] [x] := .cons a .nil
theorem VRs.take : ∀ {l : List Val} {xs : List V} (n : Nat), VRs K g H l xs → VRs K g H (l.take n) (xs.take n)
  | l, xs, 0, q => by simpa using VRs.nil
  | [], xs, n + 1, q => by simp only [VRs] at q; subst q; simpa using VRs.nil
  | v :: l, xs, n + 1, q => by
    simp only [VRs] at q
    obtain ⟨x, r, rfl, q1, q2⟩ := q
    exact .cons q1 (VRs.take n q2)
theorem VRs.drop : ∀ {l : List Val} {xs : List V} (n : Nat), VRs K g H l xs → VRs K g H (l.drop n) (xs.drop n)
  | l, xs, 0, q => by simpa using q
  | [], xs, n + 1, q => by simp only [VRs] at q; subst q; simpa using VRs.nil
  | v :: l, xs, n + 1, q => by
    simp only [VRs] at q
    obtain ⟨x, r, rfl, q1, q2⟩ := q
    simpa using VRs.drop n q2
theorem VRs.reverse : ∀ {l : List Val} {xs : List V}, VRs K g H l xs → VRs K g H l.reverse xs.reverse
  | [], xs, q => by simp only [VRs] at q; subst q; simpa using VRs.nil
  | v :: l, xs, q => by
    simp only [VRs] at q
    obtain ⟨x, r, rfl, q1, q2⟩ := q
    simp only [List.reverse_cons]
    exact (VRs.reverse q2).append (.one q1)
theorem VRs.set : ∀ {l : List Val} {xs : List V} (i : Nat) {v : Val} {x : V}, VRs K g H l xs → VR K g H v x → VRs K g H (l.set i v) (xs.set i x)
  | [], xs, i, v, x, q, p => by simp only [VRs] at q; subst q; simpa using VRs.nil
  | w :: l, xs, 0, v, x, q, p => by
    simp only [VRs] at q
    obtain ⟨y, r, rfl, q1, q2⟩ := q
    exact .cons p q2
  | w :: l, xs, i + 1, v, x, q, p => by
    simp only [VRs] at q
    obtain ⟨y, r, rfl, q1, q2⟩ := q
    exact .cons q1 (VRs.set i q2 p)
end
end GH

set_option Elab.async false
set_option linter.all false
set_option maxRecDepth 100000
set_option maxHeartbeats 1000000
set_option autoImplicit false
/-! What a piece of text yields, as a function over values and the small heap; the judgements. -/
namespace GH
open PySem PySem.Spec PyProof.Rows L2

structure Ex where
  c : List Nat
  fs : List (List Nat × Val)
inductive Res (α : Type) where
  | ok (a : α) (h : Hv)
  | exc (e : Ex) (h : Hv)
  | fail
def Res.bind {α β : Type} (r : Res α) (k : α → Hv → Res β) : Res β := match r with
  | .ok a h => k a h
  | .exc e h => .exc e h
  | .fail => .fail
@[simp] theorem Res.bind_ok {α β : Type} (a : α) (h : Hv) (k : α → Hv → Res β) : (Res.ok a h).bind k = k a h := rfl
@[simp] theorem Res.bind_exc {α β : Type} (e : Ex) (h : Hv) (k : α → Hv → Res β) : (Res.exc e h : Res α).bind k = .exc e h := rfl
@[simp] theorem Res.bind_fail {α β : Type} (k : α → Hv → Res β) : (Res.fail : Res α).bind k = .fail := rfl
abbrev DenG (α : Type) := Loc → Hv → Res α
abbrev Den := DenG Val
def ER (K : PySem.W.Frag) (g : Gh) (H : Hp) (e : Ex) (cls : Value) (d : Option Addr) : Prop := cls = .ref (clsA K e.c) ∧ match e.fs with
  | [] => d = none
  | p :: r => ∃ a gs, d = some a ∧ ¬ g.own a ∧ H a = some (.xd gs) ∧ FR K g H (p :: r) gs

def After {α β : Type} (K : PySem.W.Frag) (W : WX) (rel : Gh → Hp → α → β → Prop) (σ : L2.St) (g : Gh) (H : Hp) (Q : β → Hp → Prop) : Res α → Prop
  | .ok v h' => ∀ g' H' x, Ext g H g' H' → HR K g' H' h' → rel g' H' v x → Q x H'
  | .exc e h' => ∀ g' H' cls d, Ext g H g' H' → HR K g' H' h' → ER K g' H' e cls d → W cls d σ H'
  | .fail => False
section
variable {α β : Type} {K : PySem.W.Frag} {W : WX} {rel : Gh → Hp → α → β → Prop} {σ : L2.St} {g g1 : Gh} {H H1 : Hp} {Q : β → Hp → Prop}
theorem After.ext {r : Res α} (E : Ext g H g1 H1) (A : After K W rel σ g H Q r) : After K W rel σ g1 H1 Q r := by
  cases r with
  | ok v h => exact fun g' H' x E' => A g' H' x (E.trans E')
  | exc e h => exact fun g' H' c d E' => A g' H' c d (E.trans E')
  | fail => exact A
def tG (K : PySem.W.Frag) (W : WX) (rel : Gh → Hp → α → β → Prop) (d : DenG α) : L2.St → Hp → (β → Hp → Prop) → Prop :=
  fun σ H Q => ∃ g l h, SR K g H l σ ∧ HR K g H h ∧ After K W rel σ g H Q (d l h)
end
abbrev vr (K : PySem.W.Frag) : Gh → Hp → Val → V → Prop := fun g H v x => VR K g H v x
abbrev vrs (K : PySem.W.Frag) : Gh → Hp → List Val → List V → Prop := fun g H v x => VRs K g H v x
abbrev br : Gh → Hp → Bool → Bool → Prop := fun _ _ a b => a = b
/-- an expression yields what d says -/
def GE (X : Cx) (W : WX) (e : Expr) (d : Den) : Prop := PE X e (tG X.K W (vr X.K) d)
def GA (X : Cx) (W : WX) (es : List Expr) (d : DenG (List Val)) : Prop := PA X es (tG X.K W (vrs X.K) d)
def GT (X : Cx) (W : WX) (e : Expr) (d : DenG Bool) : Prop := PT X e (tG X.K W br d)
def GW (X : Cx) (W : WX) (e : Expr) (d : DenG Bool) : Prop := PW X e (tG X.K W br d)

section
variable {α β γ δ : Type} {K : PySem.W.Frag} {W : WX} {σ : L2.St} {g : Gh} {H : Hp} {l : Loc} {h : Hv}
/-- the first part of a bind -/
theorem tG_of {rel : Gh → Hp → α → β → Prop} {rel2 : Gh → Hp → γ → δ → Prop} {d : DenG α} {k : α → Hv → Res γ} {Q : δ → Hp → Prop} {R : β → Hp → Prop} (S : SR K g H l σ) (hr : HR K g H h) (A : After K W rel2 σ g H Q ((d l h).bind k))
    (hk : ∀ v h1 g1 H1 x, Ext g H g1 H1 → SR K g1 H1 l σ → HR K g1 H1 h1 → rel g1 H1 v x → After K W rel2 σ g1 H1 Q (k v h1) → R x H1) : tG K W rel d σ H R := by
  refine ⟨g, l, h, S, hr, ?_⟩
  cases e : d l h with
  | ok v h1 =>
    rw [e] at A
    intro g' H' x E R' r
    exact hk v h1 g' H' x E (S.ext hr E) R' r (After.ext E A)
  | exc x h1 =>
    rw [e] at A
    exact A
  | fail =>
    rw [e] at A
    exact A
end
theorem PE.imp {X : Cx} {e : Expr} {t t' : TE} (p : PE X e t) (h : ∀ σ H Q, t' σ H Q → t σ H Q) : PE X e t' := ⟨fun pins s σ H Q I q => p.run pins s σ H Q I (h σ H Q q)⟩
theorem PA.imp {X : Cx} {e : List Expr} {t t' : TA} (p : PA X e t) (h : ∀ σ H Q, t' σ H Q → t σ H Q) : PA X e t' := ⟨fun pos pins s σ H Q I q => p.run pos pins s σ H Q I (h σ H Q q)⟩
theorem PT.imp {X : Cx} {e : Expr} {t t' : TT} (p : PT X e t) (h : ∀ σ H Q, t' σ H Q → t σ H Q) : PT X e t' := ⟨fun pins s σ H Q I q => p.run pins s σ H Q I (h σ H Q q)⟩
theorem PW.imp {X : Cx} {e : Expr} {t t' : TT} (p : PW X e t) (h : ∀ σ H Q, t' σ H Q → t σ H Q) : PW X e t' := ⟨fun w pins s σ H Q I q => p.run w pins s σ H Q I (h σ H Q q)⟩
theorem PS.imp {X : Cx} {e : Stmt} {t t' : TS} (p : PS X e t) (h : ∀ D σ H, t' D σ H → t D σ H) : PS X e t' := ⟨fun pins s σ H D I q => p.run pins s σ H D I (h D σ H q)⟩
theorem PSs.imp {X : Cx} {e : List Stmt} {t t' : TS} (p : PSs X e t) (h : ∀ D σ H, t' D σ H → t D σ H) : PSs X e t' := ⟨fun pins s σ H D I q => p.run pins s σ H D I (h D σ H q)⟩

/-! ### names, constants -/
def dVar (i : Nat) : Den := fun l h => match l[i]? with
  | some (some v) => .ok v h
  | _ => .fail
def dC (v : Val) : Den := fun _ h => .ok v h
section
variable {X : Cx} {W : WX}
theorem ge_var (i : Nat) {x : Str} {pos : Pos} (hN : X.N[i]? = some x := by rfl) (hv : Vis X.env.scope x := by first | exact Or.inl rfl | exact Or.inr (Or.inl rfl) | exact Or.inr (Or.inr rfl)) (hd : (x == ("__debug__" : Str)) = false := by decide +kernel)
    (hcd : (x == ("__classdict__" : Str)) = false := by decide +kernel) : GE X W (.Name x pos) (dVar i) := by
  refine PE.imp (pe_var hN hv hd hcd) fun σ H Q ⟨g, l, h, S, R, A⟩ => ?_
  unfold dVar at A
  split at A
  · rename_i v e
    obtain ⟨x, e1, r⟩ := S.at_ i v e
    exact ⟨x, e1, A g H x Ext.refl R r⟩
  · exact A.elim
theorem ge_c {e : Expr} {v : Val} {x : V} (p : PE X e (tC x)) (r : ∀ g H, VR X.K g H v x) : GE X W e (dC v) :=
  PE.imp p fun σ H Q ⟨g, l, h, S, R, A⟩ => A g H x Ext.refl R (r g H)
theorem ge_int {i : Int} {j pos} : GE X W (.Constant (.int i) j pos) (dC (.int i)) := ge_c pe_int fun _ _ => by simp only [VR]
theorem ge_bl {b : Bool} {j pos} : GE X W (.Constant (.bool b) j pos) (dC (.bl b)) := ge_c pe_bl fun _ _ => by simp only [VR]
theorem ge_non {j pos} : GE X W (.Constant .none j pos) (dC .non) := ge_c pe_non fun _ _ => by simp only [VR]
theorem ge_str (s : List Nat) {x : Str} {j pos} (e : x = sOf s := by decide +kernel) : GE X W (.Constant (.str x) j pos) (dC (.str s)) := by
  subst e
  exact ge_c pe_str fun _ _ => by simp only [VR]

/-! ### arguments, displays -/
def dNil : DenG (List Val) := fun _ h => .ok [] h
def dCons (d : Den) (r : DenG (List Val)) : DenG (List Val) := fun l h => (d l h).bind fun v h1 => (r l h1).bind fun vs h2 => .ok (v :: vs) h2
theorem ga_nil : GA X W [] dNil := PA.imp pa_nil fun σ H Q ⟨g, l, h, S, R, A⟩ => A g H [] Ext.refl R VRs.nil
theorem ga_cons {e : Expr} {es : List Expr} {d : Den} {r : DenG (List Val)} (ha : GE X W e d) (hr : GA X W es r) (hs : starEach (e :: es) X.env = (false, eval e X.env) :: starEach es X.env := by rfl) : GA X W (e :: es) (dCons d r) := by
  refine PA.imp (pa_cons ha hr hs) fun σ H Q ⟨g, l, h, S, R, A⟩ => ?_
  refine tG_of S R A fun v h1 g1 H1 x E S1 R1 r1 A1 => ?_
  refine tG_of S1 R1 A1 fun vs h2 g2 H2 xs E2 S2 R2 r2 A2 => ?_
  exact A2 g2 H2 (x :: xs) Ext.refl R2 (.cons (r1.ext R1 E2) r2)
/-- a new object that is not tracked by us: a tuple, a list nobody writes -/
theorem HR.grow {K : PySem.W.Frag} {g : Gh} {H : Hp} {h : Hv} {p : Addr} {o : HO} (R : HR K g H h) (np : H p = none) : Ext g H g (upd H p o) ∧ HR K g (upd H p o) h := by
  have E : Ext g H g (upd H p o) := ⟨⟨[], by simp, by simp⟩, rfl, fun b u e hb => by rw [upd_ne (ne_of_none e np)]; exact e, fun b u e => ⟨u, by rw [upd_ne (ne_of_none e np)]; exact e⟩⟩
  refine ⟨E, R.len, R.nd, R.dis, fun a ha => ?_, fun i o' a e1 e2 => ?_⟩
  · obtain ⟨ob, e, mu⟩ := R.al a ha
    exact ⟨ob, by rw [upd_ne (ne_of_none e np)]; exact e, mu⟩
  · have q := R.obj i o' a e1 e2
    cases o' with
    | lst l => obtain ⟨xs, e, r⟩ := q; exact ⟨xs, by rw [upd_ne (ne_of_none e np)]; exact e, r.ext R E⟩
    | dic l => obtain ⟨xs, e, r⟩ := q; exact ⟨xs, by rw [upd_ne (ne_of_none e np)]; exact e, r.1, r.2.ext R E⟩
    | ins c f => obtain ⟨dx, gs, e, r⟩ := q; exact ⟨dx, gs, by rw [upd_ne (ne_of_none e np)]; exact e, r.1, r.2.ext R E⟩
/-- a new object that is tracked by us -/
theorem HR.push {K : PySem.W.Frag} {g : Gh} {H : Hp} {h : Hv} {p : Addr} {o : HO} {ob : Ob} (R : HR K g H h) (np : H p = none)
    (ok : OR K ⟨g.m ++ [p], g.r⟩ (upd H p o) p ob) : Ext g H ⟨g.m ++ [p], g.r⟩ (upd H p o) ∧ HR K ⟨g.m ++ [p], g.r⟩ (upd H p o) (h ++ [ob]) := by
  have E : Ext g H ⟨g.m ++ [p], g.r⟩ (upd H p o) := ⟨⟨[p], rfl, fun b hb => by rw [List.mem_singleton.mp hb]; exact np⟩, rfl, fun b u e hb => by rw [upd_ne (ne_of_none e np)]; exact e, fun b u e => ⟨u, by rw [upd_ne (ne_of_none e np)]; exact e⟩⟩
  have hp : ¬ g.own p := R.fresh np
  refine ⟨E, by simp [R.len], ?_, ?_, fun a ha => ?_, fun i o' a e1 e2 => ?_⟩
  · show (g.m ++ [p]).Nodup
    refine List.nodup_append.mpr ⟨R.nd, by simp, fun a ha b hb => ?_⟩
    rw [List.mem_singleton.mp hb]
    rintro rfl
    exact hp (.inl ha)
  · show ∀ a ∈ g.m ++ [p], a ∉ g.r
    intro a ha
    rcases List.mem_append.mp ha with ha | ha
    · exact R.dis a ha
    · rw [List.mem_singleton.mp ha]
      exact fun z => hp (.inr z)
  · obtain ⟨ob, e, mu⟩ := R.al a ha
    exact ⟨ob, by rw [upd_ne (ne_of_none e np)]; exact e, mu⟩
  · have e2 : (g.m ++ [p])[i]? = some a := e2
    by_cases hi : i < h.length
    · rw [List.getElem?_append_left hi] at e1
      rw [List.getElem?_append_left (by rw [R.len]; exact hi)] at e2
      have q := R.obj i o' a e1 e2
      cases o' with
      | lst l => obtain ⟨xs, e, r⟩ := q; exact ⟨xs, by rw [upd_ne (ne_of_none e np)]; exact e, r.ext R E⟩
      | dic l => obtain ⟨xs, e, r⟩ := q; exact ⟨xs, by rw [upd_ne (ne_of_none e np)]; exact e, r.1, r.2.ext R E⟩
      | ins c f => obtain ⟨dx, gs, e, r⟩ := q; exact ⟨dx, gs, by rw [upd_ne (ne_of_none e np)]; exact e, r.1, r.2.ext R E⟩
    · have hi' : i = h.length := by
        have := (List.getElem?_eq_some_iff.mp e1).1
        simp at this
        omega
      subst hi'
      rw [List.getElem?_append_right (Nat.le_refl _)] at e1
      rw [List.getElem?_append_right (by rw [R.len]; exact Nat.le_refl _)] at e2
      simp at e1
      rw [R.len] at e2
      simp at e2
      subst e1 e2
      exact ok
def lineN : Nat := 16777216
theorem line_ok {n : Nat} (h : n ≤ lineN) : n ≤ sizeLine := by rw [sizeLine_eq]; exact h
theorem line_lt {n : Nat} (h : n < lineN) : n < sizeLine := by rw [sizeLine_eq]; exact h
/-- the result stands in a new tuple -/
def mkTup (vs : List Val) (h : Hv) : Res Val := if vs.length ≤ lineN then .ok (.tup vs) h else .fail
def mkLst (vs : List Val) (h : Hv) : Res Val := if vs.length ≤ lineN then .ok (.lst vs) h else .fail
def mkRef (vs : List Val) (h : Hv) : Res Val := if vs.length ≤ lineN then .ok (.ref h.length) (h ++ [.lst vs]) else .fail
section
variable {K : PySem.W.Frag} {σ : L2.St} {g : Gh} {H : Hp} {h : Hv} {Q : VK} {vs : List Val} {xs : List V}
theorem mkTup_ok (R : HR K g H h) (r : VRs K g H vs xs) (A : After K W (vr K) σ g H Q (mkTup vs h)) : xs.length ≤ sizeLine ∧ ∀ p, H p = none → Q (.ref p) (upd H p (.tup xs)) := by
  unfold mkTup at A
  split at A
  · rename_i hl
    refine ⟨by rw [← r.length]; exact line_ok hl, fun p np => ?_⟩
    obtain ⟨E, R1⟩ := R.grow (o := .tup xs) np
    refine A g _ (.ref p) E R1 ?_
    simp only [VR]
    exact ⟨p, xs, rfl, SqT.of upd_same, r.ext R E⟩
  · exact A.elim
theorem mkLst_ok (R : HR K g H h) (r : VRs K g H vs xs) (A : After K W (vr K) σ g H Q (mkLst vs h)) : xs.length ≤ sizeLine ∧ ∀ p, H p = none → Q (.ref p) (upd H p (.lst xs)) := by
  unfold mkLst at A
  split at A
  · rename_i hl
    refine ⟨by rw [← r.length]; exact line_ok hl, fun p np => ?_⟩
    obtain ⟨E, R1⟩ := R.grow (o := .lst xs) np
    refine A g _ (.ref p) E R1 ?_
    simp only [VR]
    exact ⟨p, xs, rfl, R.fresh np, upd_same, r.ext R E⟩
  · exact A.elim
theorem mkRef_ok (R : HR K g H h) (r : VRs K g H vs xs) (A : After K W (vr K) σ g H Q (mkRef vs h)) : xs.length ≤ sizeLine ∧ ∀ p, H p = none → Q (.ref p) (upd H p (.lst xs)) := by
  unfold mkRef at A
  split at A
  · rename_i hl
    refine ⟨by rw [← r.length]; exact line_ok hl, fun p np => ?_⟩
    have E : Ext g H ⟨g.m ++ [p], g.r⟩ (upd H p (.lst xs)) := ⟨⟨[p], rfl, fun b hb => by rw [List.mem_singleton.mp hb]; exact np⟩, rfl, fun b u e hb => by rw [upd_ne (ne_of_none e np)]; exact e, fun b u e => ⟨u, by rw [upd_ne (ne_of_none e np)]; exact e⟩⟩
    obtain ⟨_, R1⟩ := R.push (o := .lst xs) (ob := .lst vs) np ⟨xs, upd_same, r.ext R E⟩
    refine A _ _ (.ref p) E R1 ?_
    simp only [VR]
    refine ⟨p, rfl, ?_⟩
    show (g.m ++ [p])[h.length]? = some p
    rw [← R.len]
    simp
  · exact A.elim
end
def dTup (r : DenG (List Val)) : Den := fun l h => (r l h).bind mkTup
def dLst (r : DenG (List Val)) : Den := fun l h => (r l h).bind mkLst
def dLstM (r : DenG (List Val)) : Den := fun l h => (r l h).bind mkRef
theorem ge_tup {es : List Expr} {r : DenG (List Val)} {k : Nat} {pos : Pos} (ha : GA X W es r) : GE X W (.Tuple es k pos) (dTup r) := by
  refine PE.imp (pe_tup ha) fun σ H Q ⟨g, l, h, S, R, A⟩ => ?_
  exact tG_of S R A fun v h1 g1 H1 x E S1 R1 r1 A1 => mkTup_ok R1 r1 A1
theorem ge_lst {es : List Expr} {r : DenG (List Val)} {pos : Pos} (ha : GA X W es r) : GE X W (.List es pos) (dLst r) := by
  refine PE.imp (pe_lst ha) fun σ H Q ⟨g, l, h, S, R, A⟩ => ?_
  exact tG_of S R A fun v h1 g1 H1 x E S1 R1 r1 A1 => mkLst_ok R1 r1 A1
theorem ge_lstM {es : List Expr} {r : DenG (List Val)} {pos : Pos} (ha : GA X W es r) : GE X W (.List es pos) (dLstM r) := by
  refine PE.imp (pe_lst ha) fun σ H Q ⟨g, l, h, S, R, A⟩ => ?_
  exact tG_of S R A fun v h1 g1 H1 x E S1 R1 r1 A1 => mkRef_ok R1 r1 A1

/-! ### operators: by values -/
/-- f on values, when the operands stand, is r -/
def OpG (X : Cx) (op : Value → Value → Sem Value) (f : Val → Val → Hv → Res Val) : Prop := ∃ r : R2, OpR X op r ∧
  ∀ (W : WX) (g : Gh) (H : Hp) (h : Hv) (σ : L2.St) (v u : Val) (x y : V) (Q : VK), HR X.K g H h → VR X.K g H v x → VR X.K g H u y → After X.K W (vr X.K) σ g H Q (f v u h) → r x y H Q
def dBin (f : Val → Val → Hv → Res Val) (da db : Den) : Den := fun l h => (da l h).bind fun v h1 => (db l h1).bind fun u h2 => f v u h2
theorem tBin {X : Cx} {W : WX} {f : Val → Val → Hv → Res Val} {da db : Den} {r : R2}
    (hr : ∀ (W : WX) (g : Gh) (H : Hp) (h : Hv) (σ : L2.St) (v u : Val) (x y : V) (Q : VK), HR X.K g H h → VR X.K g H v x → VR X.K g H u y → After X.K W (vr X.K) σ g H Q (f v u h) → r x y H Q)
    (σ : L2.St) (H : Hp) (Q : VK) (z : tG X.K W (vr X.K) (dBin f da db) σ H Q) : tOp r (tG X.K W (vr X.K) da) (tG X.K W (vr X.K) db) σ H Q := by
  obtain ⟨g, l, h, S, R, A⟩ := z
  refine tG_of S R A fun v h1 g1 H1 x E S1 R1 r1 A1 => ?_
  refine tG_of S1 R1 A1 fun u h2 g2 H2 y E2 S2 R2 r2 A2 => ?_
  exact hr W g2 H2 h2 σ v u x y Q R2 (r1.ext R1 E2) r2 A2
theorem ge_bin {op : Operator} {f : Val → Val → Hv → Res Val} {a b : Expr} {da db : Den} {pos : Pos} (ho : OpG X (binaryOp op) f) (ha : GE X W a da) (hb : GE X W b db) : GE X W (.BinOp a op b pos) (dBin f da db) := by
  obtain ⟨r, ho, hr⟩ := ho
  exact PE.imp (pe_op ho ha hb) fun σ H Q z => tBin hr σ H Q z
theorem ge_cmp {op : CmpOp} {f : Val → Val → Hv → Res Val} {a b : Expr} {da db : Den} {pos : Pos} (ho : OpG X (compareOp op) f) (ha : GE X W a da) (hb : GE X W b db) (hm : behindInMarks op b = false := by first | exact nomark _ | rfl) : GE X W (.Compare a [op] [b] pos) (dBin f da db) := by
  obtain ⟨r, ho, hr⟩ := ho
  exact PE.imp (pe_cmpR ho ha hb hm) fun σ H Q z => tBin hr σ H Q z
def resB (r : Res Val) : Res Bool := r.bind fun v h => match v with
  | .bl b => .ok b h
  | _ => .fail
/-- an expression that yields a bool, as a test -/
def dB (d : Den) : DenG Bool := fun l h => resB (d l h)
theorem tB_of {d : Den} {σ : L2.St} {H : Hp} {Q : Bool → Hp → Prop} (z : tG X.K W br (dB d) σ H Q) : tG X.K W (vr X.K) d σ H fun x H1 => ∃ c, x = .bl c ∧ Q c H1 := by
  obtain ⟨g, l, h, S, R, A⟩ := z
  refine tG_of S R (A : After X.K W br σ g H Q ((d l h).bind _)) fun v h1 g1 H1 x E S1 R1 r1 A1 => ?_
  cases v with
  | bl b =>
    simp only [VR] at r1
    exact ⟨b, r1, A1 g1 H1 b Ext.refl R1 rfl⟩
  | _ => exact A1.elim
theorem gt_cmp {op : CmpOp} {f : Val → Val → Hv → Res Val} {a b : Expr} {da db : Den} {pos : Pos} (ho : OpG X (compareOp op) f) (ha : GE X W a da) (hb : GE X W b db) (hm : behindInMarks op b = false := by first | exact nomark _ | rfl) : GT X W (.Compare a [op] [b] pos) (dB (dBin f da db)) := by
  obtain ⟨r, ho, hr⟩ := ho
  exact PT.imp (pt_cmpR ho ha hb hm) fun σ H Q z => tBin hr σ H _ (tB_of z)
theorem gt_val {e : Expr} {d : Den} (he : GE X W e d) (hs : ∀ whole, isTrue e X.env whole = (do let v ← whole; standAt e.pos; holding [v] (truthy v)) := by intro _; rfl) : GT X W e (dB d) :=
  PT.imp (pt_val he hs) fun σ H Q z => tB_of z

/-! ### and, or, not; if-else -/
def dAnd (a b : DenG Bool) : DenG Bool := fun l h => (a l h).bind fun c h1 => if c then b l h1 else .ok false h1
def dOr (a b : DenG Bool) : DenG Bool := fun l h => (a l h).bind fun c h1 => if c then .ok true h1 else b l h1
def dNot (a : DenG Bool) : DenG Bool := fun l h => (a l h).bind fun c h1 => .ok (!c) h1
theorem gw_and1 {a : Expr} {d : DenG Bool} {pos : Pos} (ha : GT X W a d) : GW X W (.BoolOp .And [a] pos) d := pw_and1 ha
theorem gw_or1 {a : Expr} {d : DenG Bool} {pos : Pos} (ha : GT X W a d) : GW X W (.BoolOp .Or [a] pos) d := pw_or1 ha
theorem gw_and {a b : Expr} {rest : List Expr} {da db : DenG Bool} {pos : Pos} (ha : GT X W a da) (hb : GW X W (.BoolOp .And (b :: rest) pos) db) : GW X W (.BoolOp .And (a :: b :: rest) pos) (dAnd da db) := by
  refine PW.imp (pw_and ha hb) fun σ H Q ⟨g, l, h, S, R, A⟩ => ?_
  refine tG_of S R A fun v h1 g1 H1 x E S1 R1 r1 A1 => ?_
  obtain rfl : v = x := r1
  cases v with
  | true => exact ⟨g1, l, h1, S1, R1, A1⟩
  | false => exact A1 g1 H1 false Ext.refl R1 rfl
theorem gw_or {a b : Expr} {rest : List Expr} {da db : DenG Bool} {pos : Pos} (ha : GT X W a da) (hb : GW X W (.BoolOp .Or (b :: rest) pos) db) : GW X W (.BoolOp .Or (a :: b :: rest) pos) (dOr da db) := by
  refine PW.imp (pw_or ha hb) fun σ H Q ⟨g, l, h, S, R, A⟩ => ?_
  refine tG_of S R A fun v h1 g1 H1 x E S1 R1 r1 A1 => ?_
  obtain rfl : v = x := r1
  cases v with
  | true => exact A1 g1 H1 true Ext.refl R1 rfl
  | false => exact ⟨g1, l, h1, S1, R1, A1⟩
theorem GW.pt {e : Expr} {d : DenG Bool} (h : GW X W e d) : GT X W e d := PW.pt h
theorem gt_not {a : Expr} {d : DenG Bool} {pos : Pos} (ha : GT X W a d) : GT X W (.UnaryOp .Not a pos) (dNot d) := by
  refine PT.imp (pt_not ha) fun σ H Q ⟨g, l, h, S, R, A⟩ => ?_
  refine tG_of S R A fun v h1 g1 H1 x E S1 R1 r1 A1 => ?_
  obtain rfl : v = x := r1
  exact A1 g1 H1 (!v) Ext.refl R1 rfl
def dIf (c : DenG Bool) (a b : Den) : Den := fun l h => (c l h).bind fun t h1 => if t then a l h1 else b l h1
theorem ge_if {c a b : Expr} {dc : DenG Bool} {da db : Den} {pos : Pos} (hc : GT X W c dc) (ha : GE X W a da) (hb : GE X W b db) : GE X W (.IfExp c a b pos) (dIf dc da db) := by
  refine PE.imp (pe_ifExp hc ha hb) fun σ H Q ⟨g, l, h, S, R, A⟩ => ?_
  refine tG_of S R A fun v h1 g1 H1 x E S1 R1 r1 A1 => ?_
  obtain rfl : v = x := r1
  cases v with
  | true => exact ⟨g1, l, h1, S1, R1, A1⟩
  | false => exact ⟨g1, l, h1, S1, R1, A1⟩
/-- and, or, not as values (bools all) -/
def dAndV (a b : Den) : Den := fun l h => (a l h).bind fun v h1 => match v with
  | .bl c => if c then b l h1 else .ok (.bl false) h1
  | _ => .fail
def dOrV (a b : Den) : Den := fun l h => (a l h).bind fun v h1 => match v with
  | .bl c => if c then .ok (.bl true) h1 else b l h1
  | _ => .fail
def dNotV (a : Den) : Den := fun l h => (a l h).bind fun v h1 => match v with
  | .bl c => .ok (.bl (!c)) h1
  | _ => .fail
theorem ge_one {op} {a : Expr} {d : Den} {pos : Pos} (ha : GE X W a d) : GE X W (.BoolOp op [a] pos) d := pe_one ha
theorem ge_and {a b : Expr} {rest : List Expr} {da db : Den} {pos : Pos} (ha : GE X W a da) (hb : GE X W (.BoolOp .And (b :: rest) pos) db) : GE X W (.BoolOp .And (a :: b :: rest) pos) (dAndV da db) := by
  refine PE.imp (pe_and ha hb) fun σ H Q ⟨g, l, h, S, R, A⟩ => ?_
  refine tG_of S R A fun v h1 g1 H1 x E S1 R1 r1 A1 => ?_
  cases v with
  | bl c =>
    simp only [VR] at r1
    refine ⟨c, r1, ?_⟩
    cases c with
    | true => exact ⟨g1, l, h1, S1, R1, A1⟩
    | false => exact A1 g1 H1 (.bl false) Ext.refl R1 (by simp only [VR])
  | _ => exact A1.elim
theorem ge_or {a b : Expr} {rest : List Expr} {da db : Den} {pos : Pos} (ha : GE X W a da) (hb : GE X W (.BoolOp .Or (b :: rest) pos) db) : GE X W (.BoolOp .Or (a :: b :: rest) pos) (dOrV da db) := by
  refine PE.imp (pe_or ha hb) fun σ H Q ⟨g, l, h, S, R, A⟩ => ?_
  refine tG_of S R A fun v h1 g1 H1 x E S1 R1 r1 A1 => ?_
  cases v with
  | bl c =>
    simp only [VR] at r1
    refine ⟨c, r1, ?_⟩
    cases c with
    | true => exact A1 g1 H1 (.bl true) Ext.refl R1 (by simp only [VR])
    | false => exact ⟨g1, l, h1, S1, R1, A1⟩
  | _ => exact A1.elim
theorem ge_not {a : Expr} {d : Den} {pos : Pos} (ha : GE X W a d) : GE X W (.UnaryOp .Not a pos) (dNotV d) := by
  refine PE.imp (pe_not ha) fun σ H Q ⟨g, l, h, S, R, A⟩ => ?_
  refine tG_of S R A fun v h1 g1 H1 x E S1 R1 r1 A1 => ?_
  cases v with
  | bl c =>
    simp only [VR] at r1
    exact ⟨c, r1, A1 g1 H1 _ Ext.refl R1 (by simp only [VR])⟩
  | _ => exact A1.elim
end

/-! ### statements -/
inductive SRes where
  | nx (l : Loc) (h : Hv) | rt (v : Val) (h : Hv) | bk (l : Loc) (h : Hv) | ct (l : Loc) (h : Hv) | exc (e : Ex) (l : Loc) (h : Hv) | fail
abbrev Stm := Loc → Hv → SRes
def AfterS (K : PySem.W.Frag) (W : WX) (g : Gh) (H : Hp) (D : Ends) : SRes → Prop
  | .nx l' h' => ∀ g' H' σ', Ext g H g' H' → HR K g' H' h' → SR K g' H' l' σ' → D.nx σ' H'
  | .bk l' h' => ∀ g' H' σ', Ext g H g' H' → HR K g' H' h' → SR K g' H' l' σ' → D.bk σ' H'
  | .ct l' h' => ∀ g' H' σ', Ext g H g' H' → HR K g' H' h' → SR K g' H' l' σ' → D.ct σ' H'
  | .rt v h' => ∀ g' H' x, Ext g H g' H' → HR K g' H' h' → VR K g' H' v x → D.rt x H'
  | .exc e l' h' => ∀ g' H' σ' cls d, Ext g H g' H' → HR K g' H' h' → SR K g' H' l' σ' → ER K g' H' e cls d → W cls d σ' H'
  | .fail => False
theorem AfterS.ext {K : PySem.W.Frag} {W : WX} {g g1 : Gh} {H H1 : Hp} {D : Ends} {r : SRes} (E : Ext g H g1 H1) (A : AfterS K W g H D r) : AfterS K W g1 H1 D r := by
  cases r with
  | nx l h => exact fun g' H' x E' => A g' H' x (E.trans E')
  | bk l h => exact fun g' H' x E' => A g' H' x (E.trans E')
  | ct l h => exact fun g' H' x E' => A g' H' x (E.trans E')
  | rt l h => exact fun g' H' x E' => A g' H' x (E.trans E')
  | exc e l h => exact fun g' H' s c d E' => A g' H' s c d (E.trans E')
  | fail => exact A
def tS (K : PySem.W.Frag) (W : WX) (d : Stm) : TS := fun D σ H => ∃ g l h, SR K g H l σ ∧ HR K g H h ∧ AfterS K W g H D (d l h)
def GS (X : Cx) (W : WX) (st : Stmt) (d : Stm) : Prop := PS X st (tS X.K W d)
def GSs (X : Cx) (W : WX) (st : List Stmt) (d : Stm) : Prop := PSs X st (tS X.K W d)
/-- from an expression's result on -/
def Res.to {α : Type} (r : Res α) (l : Loc) (k : α → Hv → SRes) : SRes := match r with
  | .ok v h => k v h
  | .exc e h => .exc e l h
  | .fail => .fail
@[simp] theorem Res.to_ok {α : Type} (a : α) (h : Hv) (l : Loc) (k : α → Hv → SRes) : (Res.ok a h).to l k = k a h := rfl
@[simp] theorem Res.to_exc {α : Type} (e : Ex) (h : Hv) (l : Loc) (k : α → Hv → SRes) : (Res.exc e h : Res α).to l k = .exc e l h := rfl
@[simp] theorem Res.to_fail {α : Type} (l : Loc) (k : α → Hv → SRes) : (Res.fail : Res α).to l k = .fail := rfl
theorem tG_to {α β : Type} {K : PySem.W.Frag} {W : WX} {σ : L2.St} {g : Gh} {H : Hp} {l : Loc} {h : Hv} {rel : Gh → Hp → α → β → Prop} {d : DenG α} {k : α → Hv → SRes} {D : Ends} {R : β → Hp → Prop} (S : SR K g H l σ) (hr : HR K g H h) (A : AfterS K W g H D ((d l h).to l k))
    (hk : ∀ v h1 g1 H1 x, Ext g H g1 H1 → SR K g1 H1 l σ → HR K g1 H1 h1 → rel g1 H1 v x → AfterS K W g1 H1 D (k v h1) → R x H1) : tG K W rel d σ H R := by
  refine ⟨g, l, h, S, hr, ?_⟩
  cases e : d l h with
  | ok v h1 =>
    rw [e] at A
    intro g' H' x E R' r
    exact hk v h1 g' H' x E (S.ext hr E) R' r (AfterS.ext E A)
  | exc x h1 =>
    rw [e] at A
    intro g' H' c d' E R' r
    exact A g' H' σ c d' E R' (S.ext hr E) r
  | fail =>
    rw [e] at A
    exact A
def sNext : Stm := fun l h => .nx l h
def SRes.andThen (r : SRes) (k : Stm) : SRes := match r with
  | .nx l h => k l h
  | r => r
@[simp] theorem SRes.andThen_nx (l : Loc) (h : Hv) (k : Stm) : (SRes.nx l h).andThen k = k l h := rfl
@[simp] theorem SRes.andThen_rt (v : Val) (h : Hv) (k : Stm) : (SRes.rt v h).andThen k = .rt v h := rfl
@[simp] theorem SRes.andThen_bk (l : Loc) (h : Hv) (k : Stm) : (SRes.bk l h).andThen k = .bk l h := rfl
@[simp] theorem SRes.andThen_ct (l : Loc) (h : Hv) (k : Stm) : (SRes.ct l h).andThen k = .ct l h := rfl
@[simp] theorem SRes.andThen_exc (e : Ex) (l : Loc) (h : Hv) (k : Stm) : (SRes.exc e l h).andThen k = .exc e l h := rfl
@[simp] theorem SRes.andThen_fail (k : Stm) : SRes.fail.andThen k = .fail := rfl
def sSeq (a b : Stm) : Stm := fun l h => (a l h).andThen b
def sRet (d : Den) : Stm := fun l h => (d l h).to l .rt
def sRetN : Stm := fun _ h => .rt .non h
def sExpr (d : Den) : Stm := fun l h => (d l h).to l fun _ h1 => .nx l h1
def sIf (c : DenG Bool) (a b : Stm) : Stm := fun l h => (c l h).to l fun t h1 => if t then a l h1 else b l h1
def sBreak : Stm := fun l h => .bk l h
def sCont : Stm := fun l h => .ct l h
section
variable {X : Cx} {W : WX}
theorem gs_nil : GSs X W [] sNext := PSs.imp pss_nil fun D σ H ⟨g, l, h, S, R, A⟩ => A g H σ Ext.refl R S
theorem gs_cons {st : Stmt} {rest : List Stmt} {a b : Stm} (h1 : GS X W st a) (h2 : GSs X W rest b) : GSs X W (st :: rest) (sSeq a b) := by
  refine PSs.imp (pss_cons h1 h2) fun D σ H ⟨g, l, h, S, R, A⟩ => ⟨g, l, h, S, R, ?_⟩
  unfold sSeq at A
  cases e : a l h with
  | nx l1 h1 =>
    rw [e] at A
    exact fun g' H' σ' E R' S' => ⟨g', l1, h1, S', R', AfterS.ext E A⟩
  | bk l1 h1 => rw [e] at A; exact A
  | ct l1 h1 => rw [e] at A; exact A
  | rt l1 h1 => rw [e] at A; exact A
  | exc x l1 h1 => rw [e] at A; exact A
  | fail => rw [e] at A; exact A
theorem gs_one {st : Stmt} {a : Stm} (h1 : GS X W st a) : GSs X W [st] a := pss_one h1
theorem gs_ret {e : Expr} {d : Den} {pos : Pos} (he : GE X W e d) : GS X W (.Return (some e) pos) (sRet d) := by
  refine PS.imp (ps_ret he) fun D σ H ⟨g, l, h, S, R, A⟩ => ?_
  exact tG_to S R A fun v h1 g1 H1 x E S1 R1 r1 A1 => A1 g1 H1 x Ext.refl R1 r1
theorem gs_retN {pos : Pos} : GS X W (.Return none pos) sRetN := PS.imp ps_retN fun D σ H ⟨g, l, h, S, R, A⟩ => A g H .non Ext.refl R (by simp only [VR])
theorem gs_expr {e : Expr} {d : Den} {pos : Pos} (he : GE X W e d) (hs : swapsWith e none pos.line X.env = pure false := by rfl) : GS X W (.Expr e pos) (sExpr d) := by
  refine PS.imp (ps_expr he hs) fun D σ H ⟨g, l, h, S, R, A⟩ => ?_
  exact tG_to S R A fun v h1 g1 H1 x E S1 R1 r1 A1 => A1 g1 H1 σ Ext.refl R1 S1
theorem gs_if {c : Expr} {a b : List Stmt} {dc : DenG Bool} {da db : Stm} {pos : Pos} (hc : GT X W c dc) (ha : GSs X W a da) (hb : GSs X W b db) : GS X W (.If c a b pos) (sIf dc da db) := by
  refine PS.imp (ps_if hc ha hb) fun D σ H ⟨g, l, h, S, R, A⟩ => ?_
  refine tG_to S R A fun v h1 g1 H1 x E S1 R1 r1 A1 => ?_
  obtain rfl : v = x := r1
  cases v with
  | true => exact ⟨g1, l, h1, S1, R1, A1⟩
  | false => exact ⟨g1, l, h1, S1, R1, A1⟩
theorem gs_pass {pos : Pos} : GS X W (.Pass pos) sNext := PS.imp ps_pass fun D σ H ⟨g, l, h, S, R, A⟩ => A g H σ Ext.refl R S
theorem gs_break {pos : Pos} : GS X W (.Break pos) sBreak := PS.imp ps_break fun D σ H ⟨g, l, h, S, R, A⟩ => A g H σ Ext.refl R S
theorem gs_continue {pos : Pos} : GS X W (.Continue pos) sCont := PS.imp ps_continue fun D σ H ⟨g, l, h, S, R, A⟩ => A g H σ Ext.refl R S

/-! ### targets -/
inductive TRes where
  | ok (l : Loc) (h : Hv) | exc (e : Ex) (l : Loc) (h : Hv) | fail
abbrev Tg := Val → Loc → Hv → TRes
abbrev Tgs := List Val → Loc → Hv → TRes
def AfterT (K : PySem.W.Frag) (W : WX) (g : Gh) (H : Hp) (Q : L2.St → Hp → Prop) : TRes → Prop
  | .ok l' h' => ∀ g' H' σ', Ext g H g' H' → HR K g' H' h' → SR K g' H' l' σ' → Q σ' H'
  | .exc e l' h' => ∀ g' H' σ' cls d, Ext g H g' H' → HR K g' H' h' → SR K g' H' l' σ' → ER K g' H' e cls d → W cls d σ' H'
  | .fail => False
theorem AfterT.ext {K : PySem.W.Frag} {W : WX} {g g1 : Gh} {H H1 : Hp} {D : L2.St → Hp → Prop} {r : TRes} (E : Ext g H g1 H1) (A : AfterT K W g H D r) : AfterT K W g1 H1 D r := by
  cases r with
  | ok l h => exact fun g' H' x E' => A g' H' x (E.trans E')
  | exc e l h => exact fun g' H' s c d E' => A g' H' s c d (E.trans E')
  | fail => exact A
def tT (K : PySem.W.Frag) (W : WX) (d : Tg) : TG := fun x σ H Q => ∃ g l h v, SR K g H l σ ∧ HR K g H h ∧ VR K g H v x ∧ AfterT K W g H Q (d v l h)
def tTs (K : PySem.W.Frag) (W : WX) (d : Tgs) : TGs := fun x σ H Q => ∃ g l h v, SR K g H l σ ∧ HR K g H h ∧ VRs K g H v x ∧ AfterT K W g H Q (d v l h)
def GG (X : Cx) (W : WX) (tg : Expr) (d : Tg) : Prop := PG X tg (tT X.K W d)
def GGs (X : Cx) (W : WX) (tg : List Expr) (d : Tgs) : Prop := PGs X tg (tTs X.K W d)
theorem PG.imp {X : Cx} {e : Expr} {t t' : TG} (p : PG X e t) (h : ∀ x σ H Q, t' x σ H Q → t x σ H Q) : PG X e t' := ⟨fun pins s σ H v u Q I r q => p.run pins s σ H v u Q I r (h v σ H Q q)⟩
theorem PGs.imp {X : Cx} {e : List Expr} {t t' : TGs} (p : PGs X e t) (h : ∀ x σ H Q, t' x σ H Q → t x σ H Q) : PGs X e t' := ⟨fun pins s σ H v u Q I r q => p.run pins s σ H v u Q I r (h v σ H Q q)⟩
def gName (i : Nat) : Tg := fun v l h => .ok (l.set i (some v)) h
theorem SR.set {K : PySem.W.Frag} {g : Gh} {H : Hp} {l : Loc} {σ : L2.St} {v : Val} {x : V} (S : SR K g H l σ) (i : Nat) (r : VR K g H v x) : SR K g H (l.set i (some v)) (σ.set i (some x)) := by
  refine ⟨by simp [S.len], fun j u e => ?_⟩
  by_cases hj : i = j
  · subst hj
    have hi : i < l.length := by
      have := (List.getElem?_eq_some_iff.mp e).1
      simpa using this
    rw [List.getElem?_set_self hi] at e
    cases e
    exact ⟨x, by rw [List.getElem?_set_self (by rw [← S.len]; exact hi)], r⟩
  · rw [List.getElem?_set_ne hj] at e
    obtain ⟨y, e1, e2⟩ := S.at_ j u e
    exact ⟨y, by rw [List.getElem?_set_ne hj]; exact e1, e2⟩
theorem gg_name (i : Nat) {x : Str} {pos : Pos} (hN : X.N.Nodup) (hi : X.N[i]? = some x := by rfl) (hx : L2.Loc X.env.scope x := by first | exact Or.inl rfl | exact Or.inr rfl) (hf : X.fn x = true ∨ X.env.scope.names.lookup x = some .local := by first | exact .inl rfl | exact .inr rfl) : GG X W (.Name x pos) (gName i) := by
  refine PG.imp (pg_name hN hi hx hf) fun y σ H Q ⟨g, l, h, v, S, R, r, A⟩ => ?_
  exact A g H _ Ext.refl R (S.set i r)
def gsNil : Tgs := fun vs l h => match vs with
  | [] => .ok l h
  | _ => .fail
def TRes.bind (r : TRes) (k : Loc → Hv → TRes) : TRes := match r with
  | .ok l h => k l h
  | .exc e l h => .exc e l h
  | .fail => .fail
@[simp] theorem TRes.bind_ok (l : Loc) (h : Hv) (k : Loc → Hv → TRes) : (TRes.ok l h).bind k = k l h := rfl
@[simp] theorem TRes.bind_exc (e : Ex) (l : Loc) (h : Hv) (k : Loc → Hv → TRes) : (TRes.exc e l h).bind k = .exc e l h := rfl
@[simp] theorem TRes.bind_fail (k : Loc → Hv → TRes) : TRes.fail.bind k = .fail := rfl
def gsCons (t : Tg) (u : Tgs) : Tgs := fun vs l h => match vs with
  | v :: r => (t v l h).bind fun l1 h1 => u r l1 h1
  | [] => .fail
theorem ggs_nil : GGs X W [] gsNil := by
  refine PGs.imp pgs_nil fun y σ H Q ⟨g, l, h, v, S, R, r, A⟩ => ?_
  cases v with
  | nil =>
    simp only [VRs] at r
    exact ⟨r, A g H σ Ext.refl R S⟩
  | cons v vs => exact A.elim
theorem ggs_cons {e : Expr} {es : List Expr} {t : Tg} {u : Tgs} (h1 : GG X W e t) (h2 : GGs X W es u)
    (hs : (assignEach (e :: es) X.env).map (·.2) = assign e X.env :: (assignEach es X.env).map (·.2) := by rfl) : GGs X W (e :: es) (gsCons t u) := by
  refine PGs.imp (pgs_cons h1 h2 hs) fun y σ H Q ⟨g, l, h, v, S, R, r, A⟩ => ?_
  cases v with
  | nil => exact A.elim
  | cons v vs =>
    simp only [VRs] at r
    obtain ⟨x, r', rfl, q1, q2⟩ := r
    refine ⟨x, r', rfl, g, l, h, v, S, R, q1, ?_⟩
    simp only [gsCons] at A
    cases e : t v l h with
    | ok l1 h1 =>
      rw [e] at A
      exact fun g' H' σ' E R' S' => ⟨g', l1, h1, vs, S', R', q2.ext R E, AfterT.ext E A⟩
    | exc x l1 h1 => rw [e] at A; exact A
    | fail => rw [e] at A; exact A
def gTup (n : Nat) (t : Tgs) : Tg := fun v l h => match v with
  | .tup vs => if vs.length = n then t vs l h else .fail
  | _ => .fail
theorem gg_tup {es : List Expr} {k : Nat} {t : Tgs} {n : Nat} {pos : Pos} (hc : X.calm = true) (h : GGs X W es t)
    (hn : (assignEach es X.env).length = n := by rfl) (hst : (assignEach es X.env).findIdx? (·.1) = none := by rfl) : GG X W (.Tuple es k pos) (gTup n t) := by
  refine PG.imp (pg_tup hc h hn hst) fun y σ H Q ⟨g, l, h, v, S, R, r, A⟩ => ?_
  cases v with
  | tup vs =>
    simp only [VR] at r
    obtain ⟨a, xs, rfl, q1, q2⟩ := r
    unfold gTup at A
    simp only at A
    split at A
    · rename_i hl
      exact ⟨a, xs, rfl, q1, by rw [← q2.length]; exact hl, g, l, h, vs, S, R, q2, A⟩
    · exact A.elim
  | _ => exact A.elim
def TRes.s (r : TRes) : SRes := match r with
  | .ok l h => .nx l h
  | .exc e l h => .exc e l h
  | .fail => .fail
@[simp] theorem TRes.s_ok (l : Loc) (h : Hv) : (TRes.ok l h).s = .nx l h := rfl
@[simp] theorem TRes.s_exc (e : Ex) (l : Loc) (h : Hv) : (TRes.exc e l h).s = .exc e l h := rfl
@[simp] theorem TRes.s_fail : TRes.fail.s = .fail := rfl
theorem AfterT.of_s {K : PySem.W.Frag} {W : WX} {g : Gh} {H : Hp} {D : Ends} {r : TRes} (A : AfterS K W g H D r.s) : AfterT K W g H D.nx r := by
  cases r <;> exact A
def sAsg (d : Den) (t : Tg) : Stm := fun l h => (d l h).to l fun v h1 => (t v l h1).s
theorem gs_asg {tg e : Expr} {d : Den} {t : Tg} {pos : Pos} (he : GE X W e d) (hg : GG X W tg t) (hs : swapsWithSole [tg] e pos.line X.env = pure false := by rfl) (hw : swappedStores [tg] e X.env = pure none := by rfl)
    (h1 : (assignEach [tg] X.env).map (·.2) = [assign tg X.env] := by rfl) : GS X W (.Assign [tg] e pos) (sAsg d t) := by
  refine PS.imp (ps_asg he hg hs hw h1) fun D σ H ⟨g, l, h, S, R, A⟩ => ?_
  exact tG_to S R A fun v h1 g1 H1 x E S1 R1 r1 A1 => ⟨g1, l, h1, v, S1, R1, r1, AfterT.of_s A1⟩
theorem gs_set (i : Nat) {x : Str} {e : Expr} {d : Den} {pos pos' : Pos} (he : GE X W e d) (hN : X.N.Nodup) (hi : X.N[i]? = some x := by rfl) (hx : L2.Loc X.env.scope x := by first | exact Or.inl rfl | exact Or.inr rfl)
    (hs : swapsWith e (some (.Name x pos')) pos.line X.env = pure false := by rfl) (hf : X.fn x = true ∨ X.env.scope.names.lookup x = some .local := by first | exact .inl rfl | exact .inr rfl) : GS X W (.Assign [.Name x pos'] e pos) (sAsg d (gName i)) := by
  refine PS.imp (ps_set hN hi hx he hs hf) fun D σ H ⟨g, l, h, S, R, A⟩ => ?_
  exact tG_to S R A fun v h1 g1 H1 x E S1 R1 r1 A1 => A1 g1 H1 _ Ext.refl R1 (S1.set i r1)
end
end GH

set_option Elab.async false
set_option linter.all false
set_option maxRecDepth 100000
set_option maxHeartbeats 1000000
set_option autoImplicit false
/-! Operators, subscripts, lengths, truth, lists and dicts: what they yield on values. -/
namespace GH
open PySem PySem.Spec PyProof.Rows L2

/-! ### reading sequences -/
def lstOf (h : Hv) : Val → Option (List Val)
  | .lst l => some l
  | .ref i => match h[i]? with
    | some (.lst l) => some l
    | _ => none
  | _ => none
def seqOf (h : Hv) : Val → Option (List Val)
  | .tup l => some l
  | v => lstOf h v
def dicOf (h : Hv) : Val → Option (List (Val × Val))
  | .ref i => match h[i]? with
    | some (.dic l) => some l
    | _ => none
  | _ => none
section
variable {K : PySem.W.Frag} {g : Gh} {H : Hp} {h : Hv} {v : Val} {x : V} {l : List Val}
theorem ref_at (R : HR K g H h) {i : Nat} {o : Ob} {a : Addr} (e : h[i]? = some o) (hm : g.m[i]? = some a) : OR K g H a o := R.obj i o a e hm
theorem lstOf_ok (R : HR K g H h) (r : VR K g H v x) (e : lstOf h v = some l) : ∃ a xs, x = .ref a ∧ H a = some (.lst xs) ∧ VRs K g H l xs := by
  cases v with
  | lst k =>
    simp only [lstOf, Option.some.injEq] at e
    subst e
    simp only [VR] at r
    obtain ⟨a, xs, e, _, s, r⟩ := r
    exact ⟨a, xs, e, s, r⟩
  | ref i =>
    simp only [lstOf] at e
    split at e
    · rename_i l' hl
      cases e
      simp only [VR] at r
      obtain ⟨a, rfl, hm⟩ := r
      obtain ⟨xs, e1, e2⟩ := ref_at R hl hm
      exact ⟨a, xs, rfl, e1, e2⟩
    · cases e
  | _ => simp [lstOf] at e
theorem seqOf_ok (R : HR K g H h) (r : VR K g H v x) (e : seqOf h v = some l) : ∃ a xs, x = .ref a ∧ (SqL K H a xs ∨ SqT K H a xs) ∧ VRs K g H l xs := by
  cases v with
  | tup k =>
    simp only [seqOf, Option.some.injEq] at e
    subst e
    simp only [VR] at r
    obtain ⟨a, xs, e, s, r⟩ := r
    exact ⟨a, xs, e, .inr s, r⟩
  | lst k => obtain ⟨a, xs, e, s, r⟩ := lstOf_ok R r (by simpa [seqOf] using e); exact ⟨a, xs, e, .inl (SqL.of s), r⟩
  | ref i => obtain ⟨a, xs, e, s, r⟩ := lstOf_ok R r (by simpa [seqOf] using e); exact ⟨a, xs, e, .inl (SqL.of s), r⟩
  | _ => simp [seqOf, lstOf] at e
theorem dicOf_ok (R : HR K g H h) (r : VR K g H v x) {l : List (Val × Val)} (e : dicOf h v = some l) : ∃ i a ks, v = .ref i ∧ x = .ref a ∧ g.m[i]? = some a ∧ h[i]? = some (.dic l) ∧ H a = some (.dK ks) ∧ DR K g H l ks := by
  cases v with
  | ref i =>
    simp only [dicOf] at e
    split at e
    · rename_i l' hl
      cases e
      simp only [VR] at r
      obtain ⟨a, rfl, hm⟩ := r
      obtain ⟨ks, e1, e2⟩ := ref_at R hl hm
      exact ⟨i, a, ks, rfl, rfl, hm, hl, e1, e2⟩
    · cases e
  | _ => simp [dicOf] at e
/-- an object of ours is written -/
theorem HR.write (R : HR K g H h) {i : Nat} {a : Addr} {ob : Ob} {o' : HO} (hm : g.m[i]? = some a) (ok : Ext g H g (upd H a o') → OR K g (upd H a o') a ob) :
    Ext g H g (upd H a o') ∧ HR K g (upd H a o') (h.set i ob) := by
  have ha : a ∈ g.m := List.mem_of_getElem? hm
  have E : Ext g H g (upd H a o') := by
    refine ⟨⟨[], by simp, by simp⟩, rfl, fun b u e hb => ?_, fun b u e => ?_⟩
    · rw [upd_ne (show b ≠ a from fun z => hb (by rw [z]; exact ha))]; exact e
    · by_cases hb : b = a
      · subst hb; exact ⟨_, upd_same⟩
      · exact ⟨u, by rw [upd_ne hb]; exact e⟩
  refine ⟨E, by simp [R.len], R.nd, R.dis, fun b hb => ?_, fun j o b e1 e2 => ?_⟩
  · obtain ⟨ob, e, mu⟩ := R.al b hb
    exact ⟨ob, by rw [upd_ne (show b ≠ a from fun z => R.dis a ha (by rw [← z]; exact hb))]; exact e, mu⟩
  · by_cases hj : i = j
    · subst hj
      have hi : i < h.length := by rw [← R.len]; exact (List.getElem?_eq_some_iff.mp hm).1
      rw [List.getElem?_set_self hi] at e1
      cases e1
      rw [hm] at e2
      cases e2
      exact ok E
    · rw [List.getElem?_set_ne hj] at e1
      have hba : b ≠ a := by
        rintro rfl
        have h1 := (List.getElem?_eq_some_iff.mp hm)
        have h2 := (List.getElem?_eq_some_iff.mp e2)
        obtain ⟨l1, p1⟩ := h1
        obtain ⟨l2, p2⟩ := h2
        exact hj ((List.getElem_inj R.nd).mp (p1.trans p2.symm))
      have q := R.obj j o b e1 e2
      cases o with
      | lst l => obtain ⟨xs, e, r⟩ := q; exact ⟨xs, by rw [upd_ne hba]; exact e, r.ext R E⟩
      | dic l => obtain ⟨xs, e, r⟩ := q; exact ⟨xs, by rw [upd_ne hba]; exact e, r.1, r.2.ext R E⟩
      | ins c f => obtain ⟨dx, gs, e, r⟩ := q; exact ⟨dx, gs, by rw [upd_ne hba]; exact e, r.1, r.2.ext R E⟩
end

/-! ### arithmetic -/
def big64 (i : Int) : Bool := decide (-(2 ^ 64) < i) && decide (i < 2 ^ 64)
def vAdd (v u : Val) (h : Hv) : Res Val := match v, u with
  | .int i, .int j => .ok (.int (i + j)) h
  | .str a, .str b => if a.length + b.length ≤ lineN then .ok (.str (a ++ b)) h else .fail
  | .tup a, .tup b => if a.length + b.length ≤ lineN then .ok (.tup (a ++ b)) h else .fail
  | v, u => match lstOf h v, lstOf h u with
    | some a, some b => if a.length + b.length ≤ lineN then .ok (.lst (a ++ b)) h else .fail
    | _, _ => .fail
def vSub (v u : Val) (h : Hv) : Res Val := match v, u with
  | .int i, .int j => .ok (.int (i - j)) h
  | _, _ => .fail
def vMul (v u : Val) (h : Hv) : Res Val := match v, u with
  | .int i, .int j => if big64 i || big64 j then .ok (.int (i * j)) h else .fail
  | .lst l, .int k => if -(2 ^ 63) ≤ k ∧ k < 2 ^ 63 ∧ l.length * k.toNat ≤ lineN then .ok (.lst (List.replicate k.toNat l).flatten) h else .fail
  | _, _ => .fail
def vDiv (v u : Val) (h : Hv) : Res Val := match v, u with
  | .int i, .int j => if 0 < j ∧ j < 1073741824 then .ok (.int (i / j)) h else .fail
  | _, _ => .fail
def vMod (v u : Val) (h : Hv) : Res Val := match v, u with
  | .int i, .int j => if 0 < j then .ok (.int (i % j)) h else .fail
  | _, _ => .fail
def vPow (v u : Val) (h : Hv) : Res Val := match v, u with
  | .int i, .int j => if 0 ≤ j ∧ j ≤ 1000000 ∧ i.natAbs < 2 ^ 64 then .ok (.int (i ^ j.toNat)) h else .fail
  | _, _ => .fail
def vCmpI (p : Int → Int → Bool) (v u : Val) (h : Hv) : Res Val := match v, u with
  | .int i, .int j => .ok (.bl (p i j)) h
  | _, _ => .fail
section
variable {X : Cx}
theorem sOf_append (a b : List Nat) : sOf a ++ sOf b = sOf (a ++ b) := by
  show (⟨(sOf a).cps ++ (sOf b).cps⟩ : Str) = _
  simp [sOf]
theorem og_add : OpG X (binaryOp .Add) vAdd := by
  refine ⟨_, op_add.or (op_add_str.or (op_catA.or op_cat)), fun W g H h σ v u x y Q R rv ru A => ?_⟩
  have lists : ∀ (A : After X.K W (vr X.K) σ g H Q (match lstOf h v, lstOf h u with
    | some a, some b => if a.length + b.length ≤ lineN then .ok (.lst (a ++ b)) h else .fail
    | _, _ => .fail)), rCat x y H Q := by
    intro A
    split at A
    · rename_i a b e1 e2
      split at A
      · rename_i hl
        obtain ⟨p, xs, rfl, s1, r1⟩ := lstOf_ok R rv e1
        obtain ⟨q, ys, rfl, s2, r2⟩ := lstOf_ok R ru e2
        refine ⟨p, q, xs, ys, rfl, rfl, s1, s2, by rw [← r1.length, ← r2.length]; exact line_ok hl, fun b np => ?_⟩
        obtain ⟨E, R1⟩ := R.grow (o := .lst (xs ++ ys)) np
        refine A g _ (.ref b) E R1 ?_
        simp only [VR]
        exact ⟨b, _, rfl, R.fresh np, upd_same, (r1.append r2).ext R E⟩
      · exact A.elim
    · exact A.elim
  unfold vAdd at A
  split at A
  · simp only [VR] at rv ru
    subst rv ru
    exact .inl ⟨_, _, rfl, rfl, A g H _ Ext.refl R (by simp only [VR])⟩
  · rename_i a b
    simp only [VR] at rv ru
    subst rv ru
    split at A
    · rename_i hl
      exact .inr (.inl ⟨_, _, rfl, rfl, by rw [sOf_len, sOf_len]; exact line_ok hl, A g H _ Ext.refl R (by simp only [VR]; rw [sOf_append])⟩)
    · exact A.elim
  · rename_i a b
    split at A
    · rename_i hl
      simp only [VR] at rv ru
      obtain ⟨p, xs, rfl, s1, r1⟩ := rv
      obtain ⟨q, ys, rfl, s2, r2⟩ := ru
      refine .inr (.inr (.inl ⟨p, q, xs, ys, rfl, rfl, s1, s2, by rw [← r1.length, ← r2.length]; exact line_ok hl, fun e => ?_, fun e e' => ?_, fun _ _ b np => ?_⟩))
      · subst e
        refine A g H _ Ext.refl R ?_
        simp only [VR]
        exact ⟨q, ys, rfl, s2, by simpa using r1.append r2⟩
      · subst e'
        refine A g H _ Ext.refl R ?_
        simp only [VR]
        exact ⟨p, xs, rfl, s1, by simpa using r1.append r2⟩
      · obtain ⟨E, R1⟩ := R.grow (o := .tup (xs ++ ys)) np
        refine A g _ (.ref b) E R1 ?_
        simp only [VR]
        exact ⟨b, _, rfl, SqT.of upd_same, (r1.append r2).ext R E⟩
    · exact A.elim
  · exact .inr (.inr (.inr (lists A)))
theorem og_int {op : Value → Value → Sem Value} {C : Int → Int → Prop} {f : Int → Int → V} {d : Val → Val → Hv → Res Val} (ho : OpR X op (rI C f))
    (hd : ∀ (W : WX) (g : Gh) (H : Hp) (h : Hv) (σ : L2.St) (v u : Val) (Q : VK), HR X.K g H h → After X.K W (vr X.K) σ g H Q (d v u h) → ∃ i j, v = .int i ∧ u = .int j ∧ C i j ∧ Q (f i j) H) : OpG X op d := by
  refine ⟨_, ho, fun W g H h σ v u x y Q R rv ru A => ?_⟩
  obtain ⟨i, j, rfl, rfl, c, q⟩ := hd W g H h σ v u Q R A
  simp only [VR] at rv ru
  exact ⟨i, j, rv, ru, c, q⟩
theorem og_int0 {op : Value → Value → Sem Value} {f : Int → Int → V} {d : Val → Val → Hv → Res Val} (ho : OpR X op (rI0 f))
    (hd : ∀ (W : WX) (g : Gh) (H : Hp) (h : Hv) (σ : L2.St) (v u : Val) (Q : VK), HR X.K g H h → After X.K W (vr X.K) σ g H Q (d v u h) → ∃ i j, v = .int i ∧ u = .int j ∧ Q (f i j) H) : OpG X op d := by
  refine ⟨_, ho, fun W g H h σ v u x y Q R rv ru A => ?_⟩
  obtain ⟨i, j, rfl, rfl, q⟩ := hd W g H h σ v u Q R A
  simp only [VR] at rv ru
  exact ⟨i, j, rv, ru, q⟩
theorem og_sub : OpG X (binaryOp .Sub) vSub := og_int0 op_sub fun W g H h σ v u Q R A => by
  unfold vSub at A
  split at A
  · exact ⟨_, _, rfl, rfl, A g H _ Ext.refl R (by simp only [VR])⟩
  · exact A.elim
theorem og_div : OpG X (binaryOp .FloorDiv) vDiv := og_int op_fdiv fun W g H h σ v u Q R A => by
  unfold vDiv at A
  split at A
  · split at A
    · rename_i c
      exact ⟨_, _, rfl, rfl, c, A g H _ Ext.refl R (by simp only [VR])⟩
    · exact A.elim
  · exact A.elim
theorem og_mod : OpG X (binaryOp .Mod) vMod := og_int op_mod fun W g H h σ v u Q R A => by
  unfold vMod at A
  split at A
  · split at A
    · rename_i c
      exact ⟨_, _, rfl, rfl, c, A g H _ Ext.refl R (by simp only [VR])⟩
    · exact A.elim
  · exact A.elim
theorem og_pow : OpG X (binaryOp .Pow) vPow := og_int op_pow fun W g H h σ v u Q R A => by
  unfold vPow at A
  split at A
  · split at A
    · rename_i c
      exact ⟨_, _, rfl, rfl, c, A g H _ Ext.refl R (by simp only [VR])⟩
    · exact A.elim
  · exact A.elim
theorem big64_ok {i : Int} (h : big64 i = true) : -(2 ^ 64) < i ∧ i < 2 ^ 64 := by
  simpa [big64] using h
theorem og_mul : OpG X (binaryOp .Mult) vMul := by
  refine ⟨_, op_mul.or op_rep, fun W g H h σ v u x y Q R rv ru A => ?_⟩
  unfold vMul at A
  split at A
  · split at A
    · rename_i c
      simp only [VR] at rv ru
      subst rv ru
      refine .inl ⟨_, _, rfl, rfl, ?_, A g H _ Ext.refl R (by simp only [VR])⟩
      rcases Bool.or_eq_true_iff.mp c with c | c
      · exact .inl (big64_ok c)
      · exact .inr (big64_ok c)
    · exact A.elim
  · rename_i l k
    split at A
    · rename_i c
      simp only [VR] at rv ru
      subst ru
      obtain ⟨p, xs, rfl, n, s1, r1⟩ := rv
      refine .inr ⟨p, k, xs, rfl, rfl, s1, c.1, c.2.1, by rw [← r1.length]; exact line_ok c.2.2, fun b np => ?_⟩
      obtain ⟨E, R1⟩ := R.grow (o := .lst (List.replicate k.toNat xs).flatten) np
      refine A g _ (.ref b) E R1 ?_
      simp only [VR]
      refine ⟨b, _, rfl, R.fresh np, upd_same, ?_⟩
      have rep : ∀ n : Nat, VRs X.K g H (List.replicate n l).flatten (List.replicate n xs).flatten := by
        intro n
        induction n with
        | zero => simpa using VRs.nil
        | succ n ih => rw [List.replicate_succ, List.replicate_succ, List.flatten_cons, List.flatten_cons]; exact r1.append ih
      exact (rep _).ext R E
    · exact A.elim
  · exact A.elim
theorem og_cmpI {op : CmpOp} {p : Int → Int → Bool} (ho : OpR X (compareOp op) (rI0 fun i j => .bl (p i j))) : OpG X (compareOp op) (vCmpI p) := og_int0 ho fun W g H h σ v u Q R A => by
  unfold vCmpI at A
  split at A
  · exact ⟨_, _, rfl, rfl, A g H _ Ext.refl R (by simp only [VR])⟩
  · exact A.elim
abbrev vLt := vCmpI fun i j => decide (i < j)
abbrev vLe := vCmpI fun i j => decide (i ≤ j)
abbrev vGt := vCmpI fun i j => decide (j < i)
abbrev vGe := vCmpI fun i j => decide (j ≤ i)
theorem og_lt : OpG X (compareOp .Lt) vLt := og_cmpI op_lt
theorem og_le : OpG X (compareOp .LtE) vLe := og_cmpI op_le
theorem og_gt : OpG X (compareOp .Gt) vGt := og_cmpI op_gt
theorem og_ge : OpG X (compareOp .GtE) vGe := og_cmpI op_ge
def isNon : Val → Bool
  | .non => true
  | _ => false
def vIsN (v u : Val) (h : Hv) : Res Val := match u with
  | .non => .ok (.bl (isNon v)) h
  | _ => .fail
def vNotN (v u : Val) (h : Hv) : Res Val := match u with
  | .non => .ok (.bl (!isNon v)) h
  | _ => .fail
theorem VR.non_iff {K : PySem.W.Frag} {g : Gh} {H : Hp} {v : Val} {x : V} (r : VR K g H v x) : decide (x = .non) = isNon v := by
  cases v <;> simp only [VR] at r <;> first | (subst r; rfl) | (obtain ⟨_, _, _, rfl, _⟩ := r; rfl) | (obtain ⟨_, _, rfl, _⟩ := r; rfl) | (obtain ⟨_, rfl, _⟩ := r; rfl)
theorem og_isN : OpG X (compareOp .Is) vIsN := by
  refine ⟨_, op_isN, fun W g H h σ v u x y Q R rv ru A => ?_⟩
  unfold vIsN at A
  split at A
  · simp only [VR] at ru
    refine ⟨ru, ?_⟩
    rw [rv.non_iff]
    exact A g H _ Ext.refl R (by simp only [VR])
  · exact A.elim
theorem og_notN : OpG X (compareOp .IsNot) vNotN := by
  refine ⟨_, op_notN, fun W g H h σ v u x y Q R rv ru A => ?_⟩
  unfold vNotN at A
  split at A
  · simp only [VR] at ru
    refine ⟨ru, ?_⟩
    rw [rv.non_iff]
    exact A g H _ Ext.refl R (by simp only [VR])
  · exact A.elim
/-- -e -/
def dNeg (d : Den) : Den := fun l h => (d l h).bind fun v h1 => match v with
  | .int i => .ok (.int (-i)) h1
  | _ => .fail
theorem ge_neg {W : WX} {a : Expr} {d : Den} {pos : Pos} (ha : GE X W a d) : GE X W (.UnaryOp .USub a pos) (dNeg d) := by
  refine PE.imp (pe_un un_neg ha) fun σ H Q ⟨g, l, h, S, R, A⟩ => ?_
  refine tG_of S R A fun v h1 g1 H1 x E S1 R1 r1 A1 => ?_
  cases v with
  | int i =>
    simp only [VR] at r1
    exact ⟨i, r1, A1 g1 H1 _ Ext.refl R1 (by simp only [VR])⟩
  | _ => exact A1.elim

/-! ### dicts as lists of pairs -/
def kEq : Val → Val → Bool
  | .int i, .int j => decide (i = j)
  | .str a, .str b => decide (a = b)
  | _, _ => false
def dGet (l : List (Val × Val)) (k : Val) : Option Val := (l.find? fun p => kEq p.1 k).map (·.2)
def dPut (l : List (Val × Val)) (k v : Val) : List (Val × Val) := if (l.any fun p => kEq p.1 k) then l.map (fun p => if kEq p.1 k then (p.1, v) else p) else l ++ [(k, v)]
def dDrop (l : List (Val × Val)) (k : Val) : List (Val × Val) := l.filter fun p => !kEq p.1 k
theorem kEq_key {a b : Val} {ka kb : Key} (ha : keyOf a = some ka) (hb : keyOf b = some kb) : kEq a b = decide (ka = kb) := by
  cases a <;> simp only [keyOf, Option.some.injEq, reduceCtorEq] at ha <;> cases b <;> simp only [keyOf, Option.some.injEq, reduceCtorEq] at hb <;> subst ha hb
  · rename_i i j
    simp only [kEq]
    by_cases e : i = j
    · subst e; simp
    · rw [decide_eq_false e, decide_eq_false (fun z => e (Sum.inl.inj z))]
  · simp [kEq]
  · simp [kEq]
  · rename_i i j
    simp only [kEq]
    by_cases e : i = j
    · subst e; simp
    · rw [decide_eq_false e, decide_eq_false (fun z => e (sOf_inj (Sum.inr.inj z)))]
section
variable {K : PySem.W.Frag} {g : Gh} {H : Hp}
theorem DR.nil : DR K g H [] [] := ⟨rfl, VRs.nil⟩
theorem DR.inv {l : List (Val × Val)} {p : Val × Val} {ks : List (Key × V)} (r : DR K g H (p :: l) ks) : ∃ q ks', ks = q :: ks' ∧ keyOf p.1 = some q.1 ∧ VR K g H p.2 q.2 ∧ DR K g H l ks' := by
  obtain ⟨e, r⟩ := r
  cases ks with
  | nil => simp at e
  | cons q ks' =>
    simp only [List.map_cons, List.cons.injEq] at e
    simp only [List.map_cons, VRs] at r
    obtain ⟨x, r', e1, q1, q2⟩ := r
    cases e1
    exact ⟨q, ks', rfl, e.1, q1, e.2, q2⟩
theorem DR.cons {l : List (Val × Val)} {p : Val × Val} {ks : List (Key × V)} {q : Key × V} (e : keyOf p.1 = some q.1) (r : VR K g H p.2 q.2) (t : DR K g H l ks) : DR K g H (p :: l) (q :: ks) :=
  ⟨by simp [e, t.1], by simp only [List.map_cons]; exact .cons r t.2⟩
theorem DR.nilInv {ks : List (Key × V)} (r : DR K g H [] ks) : ks = [] := by
  obtain ⟨e, _⟩ := r
  cases ks with
  | nil => rfl
  | cons q ks' => simp at e
theorem DR.length : ∀ {l : List (Val × Val)} {ks : List (Key × V)}, DR K g H l ks → l.length = ks.length
  | [], ks, r => by rw [r.nilInv]; rfl
  | p :: l, ks, r => by obtain ⟨q, ks', rfl, _, _, t⟩ := r.inv; simp [DR.length t]
theorem DR.get {k : Val} {kk : Key} (hk : keyOf k = some kk) : ∀ {l : List (Val × Val)} {ks : List (Key × V)}, DR K g H l ks → (∀ v, dGet l k = some v → ∃ x, valV ks kk = some x ∧ VR K g H v x) ∧ (dGet l k = none → valV ks kk = none)
  | [], ks, r => by rw [r.nilInv]; exact ⟨fun v e => by simp [dGet] at e, fun _ => rfl⟩
  | p :: l, ks, r => by
    obtain ⟨q, ks', rfl, e, rv, t⟩ := r.inv
    have ih := DR.get hk t
    have ek := kEq_key e hk
    by_cases c : q.1 = kk
    · rw [decide_eq_true c] at ek
      have e1 : dGet (p :: l) k = some p.2 := by simp [dGet, ek]
      rw [e1, valV_pos c]
      exact ⟨fun v z => by cases z; exact ⟨_, rfl, rv⟩, fun z => by cases z⟩
    · rw [decide_eq_false c] at ek
      have e1 : dGet (p :: l) k = dGet l k := by simp [dGet, ek]
      rw [e1, valV_neg c]
      exact ih
theorem DR.any {k : Val} {kk : Key} (hk : keyOf k = some kk) : ∀ {l : List (Val × Val)} {ks : List (Key × V)}, DR K g H l ks → (l.any fun p => kEq p.1 k) = (ks.any fun kv => decide (kv.1 = kk))
  | [], ks, r => by rw [r.nilInv]; rfl
  | p :: l, ks, r => by
    obtain ⟨q, ks', rfl, e, rv, t⟩ := r.inv
    simp only [List.any_cons, kEq_key e hk, DR.any hk t]
theorem DR.repl {k v : Val} {kk : Key} {x : V} (hk : keyOf k = some kk) (rx : VR K g H v x) : ∀ {l : List (Val × Val)} {ks : List (Key × V)}, DR K g H l ks → DR K g H (l.map fun p => if kEq p.1 k then (p.1, v) else p) (ks.map fun kv => if kv.1 = kk then (kv.1, x) else kv)
  | [], ks, r => by rw [r.nilInv]; exact DR.nil
  | p :: l, ks, r => by
    obtain ⟨q, ks', rfl, e, rv, t⟩ := r.inv
    simp only [List.map_cons, kEq_key e hk]
    by_cases c : q.1 = kk
    · simp only [c, decide_true, if_true]
      exact .cons (by show keyOf p.1 = some kk; rw [e, c]) rx (DR.repl hk rx t)
    · simp only [c, decide_false, if_false, Bool.false_eq_true]
      exact .cons e rv (DR.repl hk rx t)
theorem DR.append {l l' : List (Val × Val)} {ks ks' : List (Key × V)} (a : DR K g H l ks) (b : DR K g H l' ks') : DR K g H (l ++ l') (ks ++ ks') :=
  ⟨by simp [a.1, b.1], by simpa using a.2.append b.2⟩
theorem DR.put {k v : Val} {kk : Key} {x : V} {l : List (Val × Val)} {ks : List (Key × V)} (r : DR K g H l ks) (hk : keyOf k = some kk) (rx : VR K g H v x) : DR K g H (dPut l k v) (putK ks kk x) := by
  unfold dPut putK
  rw [DR.any hk r]
  by_cases c : (ks.any fun kv => decide (kv.1 = kk)) = true
  · rw [if_pos c, if_pos c]
    exact DR.repl hk rx r
  · rw [if_neg c, if_neg c]
    exact r.append (.cons hk rx .nil)
theorem DR.drop {k : Val} {kk : Key} (hk : keyOf k = some kk) : ∀ {l : List (Val × Val)} {ks : List (Key × V)}, DR K g H l ks → DR K g H (dDrop l k) (dropK ks kk)
  | [], ks, r => by rw [r.nilInv]; exact DR.nil
  | p :: l, ks, r => by
    obtain ⟨q, ks', rfl, e, rv, t⟩ := r.inv
    unfold dDrop dropK
    have ih := DR.drop hk t
    unfold dDrop dropK at ih
    rw [List.filter_cons, List.filter_cons, kEq_key e hk]
    by_cases c : q.1 = kk
    · rw [if_neg (by simp [c]), if_neg (by simp [c])]
      exact ih
    · rw [if_pos (by simp [c]), if_pos (by simp [c])]
      exact .cons e rv ih
theorem key_V {v : Val} {x : V} {k : Key} (r : VR K g H v x) (e : keyOf v = some k) : x = kV k := by
  cases v <;> simp only [keyOf, Option.some.injEq, reduceCtorEq] at e <;> subst e <;> simp only [VR] at r <;> exact r
end

/-! ### a[b] -/
/-- the item at an index of any sign -/
def nth {α : Type} (l : List α) (i : Int) : Option α := if 0 ≤ i then l[i.toNat]? else if -(l.length : Int) ≤ i then l[(i + l.length).toNat]? else none
theorem nth_atI {α : Type} {l : List α} {i : Int} {v : α} (h : nth l i = some v) : atI l i = some v := by
  unfold nth at h
  unfold atI ixN
  split at h
  · rename_i h0
    have hl := (List.getElem?_eq_some_iff.mp h).1
    rw [if_pos h0, if_pos (by omega)]
    exact h
  · rename_i h0
    split at h
    · rename_i h1
      rw [if_neg h0, if_pos h1]
      exact h
    · cases h
theorem VRs.nth {K : PySem.W.Frag} {g : Gh} {H : Hp} {l : List Val} {xs : List V} {i : Int} {v : Val} (r : VRs K g H l xs) (h : GH.nth l i = some v) : ∃ x, atI xs i = some x ∧ VR K g H v x := by
  have hl := r.length
  unfold GH.nth at h
  split at h
  · rename_i h0
    obtain ⟨x, e, q⟩ := r.get h
    exact ⟨x, nth_atI (by unfold GH.nth; rw [if_pos h0]; exact e), q⟩
  · rename_i h0
    split at h
    · rename_i h1
      obtain ⟨x, e, q⟩ := r.get h
      exact ⟨x, nth_atI (by unfold GH.nth; rw [if_neg h0, if_pos (by omega), ← hl]; exact e), q⟩
    · cases h
def vIx (v u : Val) (h : Hv) : Res Val := match v with
  | .str s => match u with
    | .int i => if s.length ≤ lineN then (match nth s i with
      | some c => .ok (.str [c]) h
      | none => .fail) else .fail
    | _ => .fail
  | v => match seqOf h v with
    | some l => (match u with
      | .int i => (match nth l i with
        | some w => .ok w h
        | none => .fail)
      | _ => .fail)
    | none => match dicOf h v, keyOf u with
      | some l, some _ => (match dGet l u with
        | some w => .ok w h
        | none => .fail)
      | _, _ => .fail
def rIxD : R2 := fun x y H Q => ∃ a v, x = .ref a ∧ DGet H a y (some v) ∧ Q v H
theorem ix_dict (hu : X.A.units + 1 < cLine) : IxR X rIxD := by
  intro value slice pins s σ H x y v u Q I rx ry h hs
  obtain ⟨a, z, rfl, d, q⟩ := h
  obtain rfl : v = Value.ref a := rx
  exact tail_any (dict_typeIs I d) PySem.F.slot_dict_getitem.lookup (d_getItem hu I d ry fun w' s' I' r' => ⟨z, H, I', r', q⟩) hs
theorem vIx_ok {W : WX} {g : Gh} {H : Hp} {h : Hv} {σ : L2.St} {v u : Val} {x y : V} {Q : VK} (R : HR X.K g H h) (rv : VR X.K g H v x) (ru : VR X.K g H u y) (A : After X.K W (vr X.K) σ g H Q (vIx v u h)) : rIx X.K x y H Q ∨ rIxD x y H Q := by
  unfold vIx at A
  split at A
  · rename_i s
    split at A
    · rename_i i
      split at A
      · rename_i hl
        split at A
        · rename_i c e
          simp only [VR] at rv ru
          subst rv ru
          exact .inl (.inr (.inr ⟨_, i, c, rfl, rfl, by rw [sOf_len]; exact line_ok hl, by simpa [sOf] using nth_atI e, A g H _ Ext.refl R (by simp only [VR]; rfl)⟩))
        · exact A.elim
      · exact A.elim
    · exact A.elim
  · rename_i hns
    split at A
    · rename_i l hl
      obtain ⟨a, xs, rfl, s, r⟩ := seqOf_ok R rv hl
      split at A
      · rename_i i
        split at A
        · rename_i w e
          simp only [VR] at ru
          subst ru
          obtain ⟨z, e', rz⟩ := VRs.nth r e
          rcases s with s | s
          · exact .inl (.inl ⟨a, xs, i, z, rfl, rfl, s, e', A g H _ Ext.refl R rz⟩)
          · exact .inl (.inr (.inl ⟨a, xs, i, z, rfl, rfl, s, e', A g H _ Ext.refl R rz⟩))
        · exact A.elim
      · exact A.elim
    · split at A
      · rename_i l k hl hk
        split at A
        · rename_i w e
          obtain ⟨i, a, ks, rfl, rfl, hm, hi, ha, d⟩ := dicOf_ok R rv hl
          obtain ⟨z, e', rz⟩ := (DR.get hk d).1 w e
          refine .inr ⟨a, z, rfl, ?_, A g H _ Ext.refl R rz⟩
          rw [key_V ru hk, ← e']
          exact DGet.k ha
        · exact A.elim
      · exact A.elim
theorem ge_ix {W : WX} {a b : Expr} {da db : Den} {pos : Pos} (hu : X.A.units + 1 < cLine) (ha : GE X W a da) (hb : GE X W b db) (hs : PlainIx b := by exact fun _ _ => rfl) : GE X W (.Subscript a b pos) (dBin vIx da db) := by
  refine PE.imp (pe_ix (ix_seq.or (ix_dict hu)) ha hb hs) fun σ H Q ⟨g, l, h, S, R, A⟩ => ?_
  refine tG_of S R A fun v h1 g1 H1 x E S1 R1 r1 A1 => ?_
  refine tG_of S1 R1 A1 fun u h2 g2 H2 y E2 S2 R2 r2 A2 => ?_
  exact vIx_ok R2 (r1.ext R1 E2) r2 A2

/-! ### len, truth -/
def vLen (v : Val) (h : Hv) : Res Val := match v with
  | .str s => if s.length ≤ lineN then .ok (.int s.length) h else .fail
  | v => match seqOf h v with
    | some l => .ok (.int l.length) h
    | none => match dicOf h v with
      | some l => .ok (.int l.length) h
      | none => .fail
theorem call_lenG : CallR X (.builtin "len") (fun xs H Q => (∃ x n, xs = [x] ∧ LenV X.K x H n ∧ Q (.int n) H) ∨ ∃ a kvs, xs = [.ref a] ∧ Rd H a (.dK kvs) ∧ Q (.int kvs.length) H) := by
  intro pins s σ H xs us Q I r h
  rcases h with h | ⟨a, kvs, rfl, e, q⟩
  · exact call_len pins s σ H xs us Q I r h
  · obtain ⟨u, rfl, ru⟩ := vals1 r
    obtain rfl : u = Value.ref a := ru
    exact d_len I e fun t s' I' => ⟨.int kvs.length, H, I', ⟨_, rfl⟩, q⟩
def dLen (d : Den) : Den := fun l h => (d l h).bind vLen
theorem ge_len {W : WX} {e : Expr} {d : Den} {x : Str} {p pos : Pos} (he : GE X W e d) (hm : X.mg x = none) (hg : Gl X x := by rfl) (hv : bootBuiltins x = some (.builtin "len") := by decide +kernel) (hn : x ≠ "__name__" := by decide +kernel) (hdb : (x == ("__debug__" : Str)) = false := by decide +kernel)
    (hst : starEach [e] X.env = (false, eval e X.env) :: starEach [] X.env := by rfl) (hpl : (backTo pos (starEach [] X.env)).any (·.1) = false := by rfl) : GE X W (.Call (.Name x p) [e] [] pos) (dLen d) := by
  refine PE.imp (pe_callB call_lenG hg hm hv (pa_cons he pa_nil hst) hn hdb hst hpl) fun σ H Q ⟨g, l, h, S, R, A⟩ => ?_
  refine tG_of S R A fun v h1 g1 H1 x E S1 R1 r1 A1 => ?_
  show _ ∨ _
  unfold vLen at A1
  split at A1
  · rename_i s
    split at A1
    · rename_i hl
      simp only [VR] at r1
      subst r1
      exact .inl ⟨_, _, rfl, ⟨by rw [sOf_len]; exact line_ok hl, rfl⟩, by rw [sOf_len]; exact A1 g1 H1 _ Ext.refl R1 (by simp only [VR])⟩
    · exact A1.elim
  · split at A1
    · rename_i k hk
      obtain ⟨a, xs, rfl, s, r⟩ := seqOf_ok R1 r1 hk
      refine .inl ⟨_, xs.length, rfl, ?_, by rw [← r.length]; exact A1 g1 H1 _ Ext.refl R1 (by simp only [VR])⟩
      rcases s with s | s
      · exact .inl ⟨xs, s, rfl⟩
      · exact .inr ⟨xs, s, rfl⟩
    · split at A1
      · rename_i k hk
        obtain ⟨i, a, ks, rfl, rfl, hm, hi, ha, d⟩ := dicOf_ok R1 r1 hk
        exact .inr ⟨a, ks, rfl, .inl ha, by rw [← d.length]; exact A1 g1 H1 _ Ext.refl R1 (by simp only [VR])⟩
      · exact A1.elim
def vTru (v : Val) (h : Hv) : Res Bool := match v with
  | .non => .ok false h
  | .bl b => .ok b h
  | .int i => .ok (i != 0) h
  | .str s => if s.length ≤ lineN then .ok (!s.isEmpty) h else .fail
  | v => match seqOf h v with
    | some l => .ok (!l.isEmpty) h
    | none => match dicOf h v with
      | some l => .ok (!l.isEmpty) h
      | none => .fail
theorem isEmpty_len {α β : Type} {l : List α} {l' : List β} (h : l.length = l'.length) : l.isEmpty = l'.isEmpty := by
  cases l <;> cases l' <;> simp_all
theorem vTru_ok {W : WX} {g : Gh} {H : Hp} {h : Hv} {σ : L2.St} {v : Val} {x : V} {Q : Bool → Hp → Prop} (R : HR X.K g H h) (rv : VR X.K g H v x) (A : After X.K W br σ g H Q (vTru v h)) : ∃ k, TruV X.K x H k ∧ Q k H := by
  unfold vTru at A
  split at A
  · simp only [VR] at rv; subst rv; exact ⟨_, rfl, A g H _ Ext.refl R rfl⟩
  · simp only [VR] at rv; subst rv; exact ⟨_, rfl, A g H _ Ext.refl R rfl⟩
  · simp only [VR] at rv; subst rv; exact ⟨_, rfl, A g H _ Ext.refl R rfl⟩
  · rename_i s
    split at A
    · rename_i hl
      simp only [VR] at rv
      subst rv
      refine ⟨_, ⟨by rw [sOf_len]; exact line_ok hl, rfl⟩, ?_⟩
      rw [sOf_len]
      have e : ((s.length : Int) != 0) = !s.isEmpty := by cases s <;> simp <;> omega
      rw [e]
      exact A g H _ Ext.refl R rfl
    · exact A.elim
  · split at A
    · rename_i k hk
      obtain ⟨a, xs, rfl, s, r⟩ := seqOf_ok R rv hk
      refine ⟨!xs.isEmpty, ?_, by rw [← isEmpty_len r.length]; exact A g H _ Ext.refl R rfl⟩
      rcases s with s | s
      · exact .inl ⟨xs, s, rfl⟩
      · exact .inr (.inl ⟨xs, s, rfl⟩)
    · split at A
      · rename_i k hk
        obtain ⟨i, a, ks, rfl, rfl, hm, hi, ha, d⟩ := dicOf_ok R rv hk
        exact ⟨!ks.isEmpty, .inr (.inr ⟨ks, ha, rfl⟩), by rw [← isEmpty_len d.length]; exact A g H _ Ext.refl R rfl⟩
      · exact A.elim
def dTru (d : Den) : DenG Bool := fun l h => (d l h).bind vTru
theorem gt_tru {W : WX} {e : Expr} {d : Den} (he : GE X W e d) (hs : ∀ whole, isTrue e X.env whole = (do let v ← whole; standAt e.pos; holding [v] (truthy v)) := by intro _; rfl) : GT X W e (dTru d) := by
  refine PT.imp (pt_truth he hs) fun σ H Q ⟨g, l, h, S, R, A⟩ => ?_
  exact tG_of S R A fun v h1 g1 H1 x E S1 R1 r1 A1 => vTru_ok R1 r1 A1
end
end GH

set_option Elab.async false
set_option linter.all false
set_option maxRecDepth 100000
set_option maxHeartbeats 1000000
set_option autoImplicit false
/-! Loops and comprehensions. -/
namespace GH
open PySem PySem.Spec PyProof.Rows L2

/-- behind a loop's body -/
def SRes.turn (r : SRes) (k : Stm) : SRes := match r with
  | .nx l h => k l h
  | .ct l h => k l h
  | .bk l h => .nx l h
  | r => r
@[simp] theorem SRes.turn_nx (l : Loc) (h : Hv) (k : Stm) : (SRes.nx l h).turn k = k l h := rfl
@[simp] theorem SRes.turn_ct (l : Loc) (h : Hv) (k : Stm) : (SRes.ct l h).turn k = k l h := rfl
@[simp] theorem SRes.turn_bk (l : Loc) (h : Hv) (k : Stm) : (SRes.bk l h).turn k = .nx l h := rfl
@[simp] theorem SRes.turn_rt (v : Val) (h : Hv) (k : Stm) : (SRes.rt v h).turn k = .rt v h := rfl
@[simp] theorem SRes.turn_exc (e : Ex) (l : Loc) (h : Hv) (k : Stm) : (SRes.exc e l h).turn k = .exc e l h := rfl
@[simp] theorem SRes.turn_fail (k : Stm) : SRes.fail.turn k = .fail := rfl

/-! ### while -/
def whileN : Nat → DenG Bool → Stm → Stm
  | 0, _, _ => fun _ _ => .fail
  | n + 1, c, b => fun l h => (c l h).to l fun t h1 => if t = true then (b l h1).turn (whileN n c b) else .nx l h1
theorem whileN_mono (c : DenG Bool) (b : Stm) : ∀ (n : Nat) (l : Loc) (h : Hv), whileN n c b l h ≠ .fail → whileN (n + 1) c b l h = whileN n c b l h
  | 0, l, h, e => absurd rfl e
  | n + 1, l, h, e => by
    show (c l h).to l (fun t h1 => if t = true then (b l h1).turn (whileN (n + 1) c b) else .nx l h1) = (c l h).to l (fun t h1 => if t = true then (b l h1).turn (whileN n c b) else .nx l h1)
    have e : (c l h).to l (fun t h1 => if t = true then (b l h1).turn (whileN n c b) else .nx l h1) ≠ .fail := e
    cases ec : c l h with
    | ok t h1 =>
      rw [ec] at e
      simp only [Res.to_ok] at e ⊢
      cases t with
      | false => rfl
      | true =>
        simp only [if_true] at e ⊢
        cases eb : b l h1 with
        | nx l2 h2 => rw [eb] at e; exact whileN_mono c b n l2 h2 e
        | ct l2 h2 => rw [eb] at e; exact whileN_mono c b n l2 h2 e
        | bk l2 h2 => rfl
        | rt v h2 => rfl
        | exc x l2 h2 => rfl
        | fail => rfl
    | exc x h1 => rfl
    | fail => rfl
theorem whileN_le (c : DenG Bool) (b : Stm) {n : Nat} {l : Loc} {h : Hv} (e : whileN n c b l h ≠ .fail) : ∀ k, whileN (n + k) c b l h = whileN n c b l h
  | 0 => rfl
  | k + 1 => by
    have ih := whileN_le c b e k
    rw [← Nat.add_assoc, whileN_mono c b (n + k) l h (by rw [ih]; exact e), ih]
open Classical in
noncomputable def sWhile (c : DenG Bool) (b : Stm) : Stm := fun l h => if ex : ∃ n, whileN n c b l h ≠ .fail then whileN (Classical.choose ex) c b l h else .fail
theorem sWhile_of {c : DenG Bool} {b : Stm} {n : Nat} {l : Loc} {h : Hv} (e : whileN n c b l h ≠ .fail) : sWhile c b l h = whileN n c b l h := by
  have ex : ∃ n, whileN n c b l h ≠ .fail := ⟨n, e⟩
  unfold sWhile
  rw [dif_pos ex]
  have e' := Classical.choose_spec ex
  generalize Classical.choose ex = m at e'
  rcases Nat.le_total n m with q | q
  · obtain ⟨k, rfl⟩ := Nat.exists_eq_add_of_le q
    exact whileN_le c b e k
  · obtain ⟨k, rfl⟩ := Nat.exists_eq_add_of_le q
    exact (whileN_le c b e' k).symm
theorem sWhile_ne {c : DenG Bool} {b : Stm} {l : Loc} {h : Hv} (e : sWhile c b l h ≠ .fail) : ∃ n, whileN n c b l h ≠ .fail ∧ sWhile c b l h = whileN n c b l h := by
  unfold sWhile at e
  split at e
  · rename_i ex
    exact ⟨_, e, by unfold sWhile; rw [dif_pos ex]⟩
  · exact absurd rfl e
/-- the loop's own equation -/
theorem sWhile_eq (c : DenG Bool) (b : Stm) (l : Loc) (h : Hv) : sWhile c b l h = (c l h).to l fun t h1 => if t = true then (b l h1).turn (sWhile c b) else .nx l h1 := by
  cases ec : c l h with
  | exc x h1 =>
    have e : whileN 1 c b l h = .exc x l h1 := by show (c l h).to l _ = _; rw [ec]; rfl
    rw [sWhile_of (n := 1) (by rw [e]; exact fun z => nomatch z), e]
    rfl
  | fail =>
    by_cases e : sWhile c b l h = .fail
    · rw [e]; rfl
    · obtain ⟨n, e1, e2⟩ := sWhile_ne e
      cases n with
      | zero => exact absurd rfl e1
      | succ n => exact absurd (by show (c l h).to l _ = _; rw [ec]; rfl) e1
  | ok t h1 =>
    simp only [Res.to_ok]
    cases t with
    | false =>
      have e : whileN 1 c b l h = .nx l h1 := by show (c l h).to l _ = _; rw [ec]; rfl
      rw [sWhile_of (n := 1) (by rw [e]; exact fun z => nomatch z), e]
      rfl
    | true =>
      simp only [if_true]
      have step : ∀ n, whileN (n + 1) c b l h = (b l h1).turn (whileN n c b) := fun n => by show (c l h).to l _ = _; rw [ec]; rfl
      have ends : ∀ r : SRes, r ≠ .fail → (∀ k, (b l h1).turn k = r) → sWhile c b l h = (b l h1).turn (sWhile c b) := fun r nr hr => by
        rw [sWhile_of (n := 1) (by rw [step, hr]; exact nr), step, hr, hr]
      have goes : ∀ l2 h2, (∀ k : Stm, (b l h1).turn k = k l2 h2) → sWhile c b l h = (b l h1).turn (sWhile c b) := fun l2 h2 hk => by
        rw [hk]
        by_cases e : sWhile c b l2 h2 = .fail
        · rw [e]
          by_cases e' : sWhile c b l h = .fail
          · exact e'
          · obtain ⟨n, e1, e2⟩ := sWhile_ne e'
            cases n with
            | zero => exact absurd rfl e1
            | succ n =>
              rw [step, hk] at e1
              exact absurd (sWhile_of e1 ▸ e) e1
        · obtain ⟨n, e1, e2⟩ := sWhile_ne e
          rw [sWhile_of (n := n + 1) (by rw [step, hk]; exact e1), step, hk, e2]
      cases eb : b l h1 with
      | nx l2 h2 => rw [← eb]; exact goes l2 h2 fun k => by rw [eb]; rfl
      | ct l2 h2 => rw [← eb]; exact goes l2 h2 fun k => by rw [eb]; rfl
      | bk l2 h2 => rw [← eb]; exact ends (.nx l2 h2) (fun z => nomatch z) fun k => by rw [eb]; rfl
      | rt v h2 => rw [← eb]; exact ends (.rt v h2) (fun z => nomatch z) fun k => by rw [eb]; rfl
      | exc x l2 h2 => rw [← eb]; exact ends (.exc x l2 h2) (fun z => nomatch z) fun k => by rw [eb]; rfl
      | fail =>
        show sWhile c b l h = .fail
        by_cases e : sWhile c b l h = .fail
        · exact e
        · obtain ⟨n, e1, e2⟩ := sWhile_ne e
          cases n with
          | zero => exact absurd rfl e1
          | succ n => exact absurd (by rw [step, eb]; rfl) e1
section
variable {X : Cx} {W : WX}
theorem gs_while {c : Expr} {body : List Stmt} {dc : DenG Bool} {db : Stm} {pos : Pos} (hp : PassesOwn (model X.prog X.w) X.A X.env X.xe) (hc : GT X W c dc) (hb : GSs X W body db) : GS X W (.While c body [] pos) (sWhile dc db) := by
  refine PS.imp (ps_while hp hc hb) fun D σ H ⟨g, l, h, S, R, A⟩ => ?_
  have nf : sWhile dc db l h ≠ .fail := fun e => by rw [e] at A; exact A
  obtain ⟨n0, e0, e1⟩ := sWhile_ne nf
  rw [e1] at A
  refine ⟨fun m σ H => ∃ g l h, SR X.K g H l σ ∧ HR X.K g H h ∧ AfterS X.K W g H D (whileN m dc db l h), ⟨n0, g, l, h, S, R, A⟩, ?_⟩
  rintro m σ H ⟨g, l, h, S, R, A⟩
  cases m with
  | zero => exact A.elim
  | succ m =>
    have A : AfterS X.K W g H D ((dc l h).to l fun t h1 => if t = true then (db l h1).turn (whileN m dc db) else .nx l h1) := A
    refine tG_to S R A fun t h1 g1 H1 x E S1 R1 r1 A1 => ?_
    obtain rfl : t = x := r1
    cases t with
    | false => exact A1 g1 H1 σ Ext.refl R1 S1
    | true =>
      simp only [if_true] at A1 ⊢
      refine ⟨fun σ' H' => ∃ g l h, SR X.K g H' l σ' ∧ HR X.K g H' h ∧ AfterS X.K W g H' D (whileN m dc db l h), fun σ' H' q => ⟨m, Nat.lt_succ_self m, q⟩, g1, l, h1, S1, R1, ?_⟩
      cases eb : db l h1 with
      | nx l2 h2 => rw [eb] at A1; exact fun g' H' σ' E' R' S' => ⟨g', l2, h2, S', R', AfterS.ext E' A1⟩
      | ct l2 h2 => rw [eb] at A1; exact fun g' H' σ' E' R' S' => ⟨g', l2, h2, S', R', AfterS.ext E' A1⟩
      | bk l2 h2 => rw [eb] at A1; exact A1
      | rt v h2 => rw [eb] at A1; exact A1
      | exc x l2 h2 => rw [eb] at A1; exact A1
      | fail => rw [eb] at A1; exact A1

/-! ### what is walked -/
/-- the items, and the object of ours that must stay as it is -/
abbrev Src := List Val × Option Nat
def srcOk (s : Src) (h : Hv) : Prop := match s.2 with
  | none => True
  | some j => h[j]? = some (.lst s.1)
/-- the iterator J serves these items -/
def Serves (K : PySem.W.Frag) (J : It) (g0 : Gh) (H0 : Hp) (s : Src) : Prop := ∀ g H h, ExtS g0 H0 g H → HR K g H h → srcOk s h → ∀ i,
  (∀ v, s.1[i]? = some v → J.go i H ∧ ∀ x H', J.yld i H x H' → Ext g H g H' ∧ HR K g H' h ∧ VR K g H' v x) ∧ (i = s.1.length → J.stop i H)
/-- what follows an iterator -/
def AfterI (K : PySem.W.Frag) (W : WX) (σ : L2.St) (g : Gh) (H : Hp) (R : It → Hp → Prop) : Res Src → Prop
  | .ok s h' => srcOk s h' ∧ ∀ g' H' J, Ext g H g' H' → HR K g' H' h' → s.1.length ≤ sizeLine → Serves K J g' H' s → R J H'
  | .exc e h' => ∀ g' H' cls d, Ext g H g' H' → HR K g' H' h' → ER K g' H' e cls d → W cls d σ H'
  | .fail => False
def tI (K : PySem.W.Frag) (W : WX) (d : DenG Src) : TI := fun σ H R => ∃ g l h, SR K g H l σ ∧ HR K g H h ∧ AfterI K W σ g H R (d l h)
def GI (X : Cx) (W : WX) (tg iter : Expr) (d : DenG Src) : Prop := PI X tg iter (tI X.K W d)
theorem PI.imp {tg e : Expr} {t t' : TI} (p : PI X tg e t) (h : ∀ pins s σ H R, Inv X pins σ H s → t' σ H R → t σ H R) : PI X tg e t' := ⟨fun pins s σ H R I q => p.run pins s σ H R I (h pins s σ H R I q)⟩
theorem PI.or {tg e : Expr} {t t' : TI} (p : PI X tg e t) (p' : PI X tg e t') : PI X tg e fun σ H R => t σ H R ∨ t' σ H R := ⟨fun pins s σ H R I q => by
  rcases q with q | q
  · exact p.run pins s σ H R I q
  · exact p'.run pins s σ H R I q⟩

/-! ### for -/
open Classical in
noncomputable def forL (t : Tg) (b : Stm) (s : Src) : List Val → Stm
  | [] => fun l h => if srcOk s h then .nx l h else .fail
  | x :: r => fun l h => if srcOk s h then (match t x l h with
    | .ok l1 h1 => (b l1 h1).turn (forL t b s r)
    | .exc e l1 h1 => .exc e l1 h1
    | .fail => .fail) else .fail
noncomputable def sFor (di : DenG Src) (t : Tg) (b : Stm) : Stm := fun l h => (di l h).to l fun s h1 => forL t b s s.1 l h1
theorem gs_for {tg iter : Expr} {body : List Stmt} {di : DenG Src} {t : Tg} {db : Stm} {pos : Pos} (hp : PassesOwn (model X.prog X.w) X.A X.env X.xe) (hc : X.calm = true) (hi : GI X W tg iter di) (hg : GG X W tg t) (hb : GSs X W body db)
    (hs : ∀ x, foldedSetIterable iter X.env x = pure x := by intro _; rfl) : GS X W (.For tg iter body [] pos) (sFor di t db) := by
  refine PS.imp (ps_for hp hc hi hg hb hs) fun D σ H ⟨g, l, h, S, R, A⟩ => ?_
  refine ⟨g, l, h, S, R, ?_⟩
  unfold sFor at A
  unfold AfterI
  cases e : di l h with
  | exc x h1 => rw [e] at A; exact fun g' H' c d E' R' r => A g' H' σ c d E' R' (S.ext R E') r
  | fail => rw [e] at A; exact A
  | ok s h1 =>
    rw [e] at A
    simp only [Res.to_ok] at A
    have ok1 : srcOk s h1 := by
      cases hs1 : s.1 with
      | nil =>
        rw [hs1] at A
        simp only [forL] at A
        split at A
        · assumption
        · exact A.elim
      | cons x r =>
        rw [hs1] at A
        simp only [forL] at A
        split at A
        · assumption
        · exact A.elim
    refine ⟨ok1, fun g1 H1 J E1 R1 hz sv => ?_⟩
    refine ⟨fun i m σ H => ∃ g l h, Ext g1 H1 g H ∧ SR X.K g H l σ ∧ HR X.K g H h ∧ m = s.1.length - i ∧ i ≤ s.1.length ∧ AfterS X.K W g H D (forL t db s (s.1.drop i) l h), ⟨s.1.length, g1, l, h1, Ext.refl, S.ext R E1, R1, by simp, Nat.zero_le _, by simpa using AfterS.ext E1 A⟩, ?_⟩
    rintro i m σ H ⟨g, l, h, E, S, R, rfl, hil, A⟩
    cases hd : s.1.drop i with
    | nil =>
      have hle : s.1.length ≤ i := List.drop_eq_nil_iff.mp hd
      rw [hd] at A
      simp only [forL] at A
      split at A
      · rename_i ok
        exact .inl ⟨(sv g H h E.s R ok i).2 (Nat.le_antisymm hil hle), A g H σ Ext.refl R S⟩
      · exact A.elim
    | cons v r =>
      have hlt : i < s.1.length := by
        by_cases q : i < s.1.length
        · exact q
        · rw [List.drop_eq_nil_iff.mpr (by omega)] at hd; cases hd
      have hv : s.1[i]? = some v := by
        have q := congrArg List.head? hd
        rw [List.head?_drop] at q
        simpa using q
      have hr : s.1.drop (i + 1) = r := by
        have q := congrArg List.tail hd
        rw [List.tail_drop] at q
        simpa using q
      rw [hd] at A
      simp only [forL] at A
      split at A
      · rename_i ok
        obtain ⟨go, yl⟩ := (sv g H h E.s R ok i).1 v hv
        refine .inr ⟨go, fun σ' H' => ∃ g l h, Ext g1 H1 g H' ∧ SR X.K g H' l σ' ∧ HR X.K g H' h ∧ i + 1 ≤ s.1.length ∧ AfterS X.K W g H' D (forL t db s (s.1.drop (i + 1)) l h), fun σ' H' ⟨g, l, h, q1, q2, q3, q4, q5⟩ => ⟨s.1.length - (i + 1), by omega, g, l, h, q1, q2, q3, rfl, q4, q5⟩, fun x H' y => ?_⟩
        obtain ⟨E2, R2, rx⟩ := yl x H' y
        refine ⟨g, l, h, v, S.ext R E2, R2, rx, ?_⟩
        have A2 := AfterS.ext E2 A
        cases et : t v l h with
        | exc x l1 h1 => rw [et] at A2; exact A2
        | fail => rw [et] at A2; exact A2
        | ok l2 h2 =>
          rw [et] at A2
          simp only at A2
          intro g3 H3 σ3 E3 R3 S3
          refine ⟨g3, l2, h2, S3, R3, ?_⟩
          have A3 := AfterS.ext E3 A2
          have E03 := (E.trans E2).trans E3
          cases eb : db l2 h2 with
          | nx l4 h4 => rw [eb] at A3; exact fun g' H' σ' E' R' S' => ⟨g', l4, h4, E03.trans E', S', R', hlt, by rw [hr]; exact AfterS.ext E' A3⟩
          | ct l4 h4 => rw [eb] at A3; exact fun g' H' σ' E' R' S' => ⟨g', l4, h4, E03.trans E', S', R', hlt, by rw [hr]; exact AfterS.ext E' A3⟩
          | bk l4 h4 => rw [eb] at A3; exact A3
          | rt v4 h4 => rw [eb] at A3; exact A3
          | exc x4 l4 h4 => rw [eb] at A3; exact A3
          | fail => rw [eb] at A3; exact A3
      · exact A.elim
end
end GH

set_option Elab.async false
set_option linter.all false
set_option maxRecDepth 100000
set_option maxHeartbeats 1000000
set_option autoImplicit false
/-! What may be walked; list comprehensions. -/
namespace GH
open PySem PySem.Spec PyProof.Rows L2

section
variable {K : PySem.W.Frag} {g0 g : Gh} {H0 H : Hp}
theorem sqL_ext {a : Addr} {xs : List V} {h : Hv} (R : HR K g0 H0 h) (E : ExtS g0 H0 g H) (na : a ∉ g0.m) (s : SqL K H0 a xs) : SqL K H a xs := by
  rcases s with s | s
  · exact .inl (E.rd na s)
  · exact .inr s
theorem sqT_ext {a : Addr} {xs : List V} {h : Hv} (R : HR K g0 H0 h) (E : ExtS g0 H0 g H) (s : SqT K H0 a xs) : SqT K H a xs := by
  rcases s with s | s
  · exact .inl (E.rd (R.not_tup s) s)
  · exact .inr s
/-- a walk whose items stay -/
theorem serves_of {J : It} {items : List Val} {src : Option Nat} {n : Nat} (hn : n = items.length)
    (hw : ∀ g H h, ExtS g0 H0 g H → HR K g H h → srcOk (items, src) h → ∃ (G : Hp → Prop) (Y : Nat → Hp → V → Hp → Prop), Walk J n G Y ∧ G H ∧ ∀ i x H' v, items[i]? = some v → Y i H x H' → Ext g H g H' ∧ HR K g H' h ∧ VR K g H' v x) : Serves K J g0 H0 (items, src) := by
  intro g H h E R ok i
  obtain ⟨G, Y, w, gh, hy⟩ := hw g H h E R ok
  refine ⟨fun v hv => ?_, fun hi => ?_⟩
  · have hi : i < n := by rw [hn]; exact (List.getElem?_eq_some_iff.mp hv).1
    exact ⟨w.goes i H hi gh, fun x H' y => hy i x H' v hv (w.yields i H x H' hi gh y)⟩
  · rw [hi]
    show J.stop items.length H
    rw [← hn]
    exact w.stops H gh
theorem serves_list {a : Addr} {xs : List V} {items : List Val} {h : Hv} (R0 : HR K g0 H0 h) (na : a ∉ g0.m) (s : SqL K H0 a xs) (r : VRs K g0 H0 items xs) : Serves K (Itl K a) g0 H0 (items, none) :=
  serves_of (n := xs.length) r.length.symm fun g H h E R _ => ⟨_, _, walk_list, sqL_ext R0 E na s, fun i x H' v hv y => by
    obtain ⟨rfl, e⟩ := y
    obtain ⟨z, e1, e2⟩ := r.get hv
    rw [e] at e1; cases e1
    exact ⟨Ext.refl, R, e2.extS R0 E⟩⟩
theorem serves_fz {a : Addr} {xs : List V} {items : List Val} {h : Hv} (R0 : HR K g0 H0 h) (s : FzL K H0 a xs) (r : VRs K g0 H0 items xs) : Serves K (Itl K a) g0 H0 (items, none) :=
  serves_of (n := xs.length) r.length.symm fun g H h E R _ => ⟨_, _, walk_list, (s.imp fun o s => E.keep _ _ s fun ha => by
    rcases R0.kind ha with ⟨_, q⟩ | ⟨_, q⟩ | ⟨_, _, _, q⟩ <;> rw [q] at s <;> cases s).sq, fun i x H' v hv y => by
    obtain ⟨rfl, e⟩ := y
    obtain ⟨z, e1, e2⟩ := r.get hv
    rw [e] at e1; cases e1
    exact ⟨Ext.refl, R, e2.extS R0 E⟩⟩
theorem serves_tup {a : Addr} {xs : List V} {items : List Val} {h : Hv} (R0 : HR K g0 H0 h) (s : SqT K H0 a xs) (r : VRs K g0 H0 items xs) : Serves K (Itt K a) g0 H0 (items, none) :=
  serves_of (n := xs.length) r.length.symm fun g H h E R _ => ⟨_, _, walk_tup, sqT_ext R0 E s, fun i x H' v hv y => by
    obtain ⟨rfl, e⟩ := y
    obtain ⟨z, e1, e2⟩ := r.get hv
    rw [e] at e1; cases e1
    exact ⟨Ext.refl, R, e2.extS R0 E⟩⟩
/-- a list of ours that must stay -/
theorem serves_ref {a : Addr} {items : List Val} {j : Nat} (hm : g0.m[j]? = some a) : Serves K (Itl K a) g0 H0 (items, some j) :=
  serves_of (n := items.length) rfl fun g H h E R ok => by
    have ok : h[j]? = some (.lst items) := ok
    obtain ⟨t, em, _⟩ := E.m
    have hm' : g.m[j]? = some a := by rw [em, List.getElem?_append_left (List.getElem?_eq_some_iff.mp hm).1]; exact hm
    obtain ⟨xs, e1, r⟩ := ref_at R ok hm'
    refine ⟨fun H => SqL K H a xs, YAt xs, by rw [r.length]; exact walk_list, SqL.of e1, fun i x H' v hv y => ?_⟩
    obtain ⟨rfl, e⟩ := y
    obtain ⟨z, e1, e2⟩ := r.get hv
    rw [e] at e1; cases e1
    exact ⟨Ext.refl, R, e2⟩
theorem serves_str {z : List Nat} : Serves K (Its (sOf z)) g0 H0 (z.map fun c => .str [c], none) :=
  serves_of (n := (sOf z).cps.size) (by simp [sOf]) fun g H h E R _ => ⟨_, _, walk_str, trivial, fun i x H' v hv y => by
    obtain ⟨rfl, c, e, rfl⟩ := y
    rw [List.getElem?_map] at hv
    simp [sOf] at e
    rw [e] at hv
    simp at hv
    subst hv
    exact ⟨Ext.refl, R, by simp only [VR]; rfl⟩⟩
/-- lo, lo + 1, .. -/
def rangeL (lo : Int) (n : Nat) : List Val := (List.range n).map fun i => .int (lo + (i : Nat))
theorem serves_range {lo : Int} {n : Nat} : Serves K (Itr lo n) g0 H0 (rangeL lo n, none) :=
  serves_of (n := n) (by simp [rangeL]) fun g H h E R _ => ⟨_, _, walk_range, trivial, fun i x H' v hv y => by
    obtain ⟨rfl, rfl⟩ := y
    unfold rangeL at hv
    rw [List.getElem?_map] at hv
    by_cases hi : i < n
    · rw [List.getElem?_range hi] at hv
      simp at hv
      subst hv
      exact ⟨Ext.refl, R, by simp only [VR]⟩
    · rw [List.getElem?_eq_none (by simp; omega)] at hv
      cases hv⟩
/-- pairs of two lists' items, each a new tuple -/
theorem serves_pair {J : It} {xs ys : List V} {l k : List Val} {n : Nat} {G : Hp → Prop} {h : Hv} (R0 : HR K g0 H0 h) (hn : n = (l.zip k).length) (w : Walk J n G (YPair (fun i => xs[i]?) (fun i => ys[i]?))) (hG : ∀ g H, ExtS g0 H0 g H → G H) (r : VRs K g0 H0 l xs) (q : VRs K g0 H0 k ys) :
    Serves K J g0 H0 ((l.zip k).map fun p => .tup [p.1, p.2], none) :=
  serves_of (n := n) (by simpa using hn) fun g H h E R _ => ⟨_, _, w, hG g H E, fun i x H' v hv y => by
    obtain ⟨T, x1, y1, rfl, nT, rfl, e1, e2⟩ := y
    rw [List.getElem?_map] at hv
    cases ez : (l.zip k)[i]? with
    | none => rw [ez] at hv; cases hv
    | some p =>
      rw [ez] at hv
      simp at hv
      subst hv
      obtain ⟨f1, f2⟩ := List.getElem?_zip_eq_some.mp ez
      obtain ⟨a1, b1, c1⟩ := r.get f1
      obtain ⟨a2, b2, c2⟩ := q.get f2
      have e1 : xs[i]? = some x1 := e1
      have e2 : ys[i]? = some y1 := e2
      rw [e1] at b1; cases b1
      rw [e2] at b2; cases b2
      obtain ⟨E1, R1⟩ := R.grow (o := .tup [x1, y1]) nT
      refine ⟨E1, R1, ?_⟩
      simp only [VR]
      exact ⟨T, _, rfl, SqT.of upd_same, .cons ((c1.extS R0 E).ext R E1) (.cons ((c2.extS R0 E).ext R E1) .nil)⟩⟩
end
/-! ### for x in e -/
def vIter (v : Val) (h : Hv) : Res Src := match v with
  | .tup l => .ok (l, none) h
  | .lst l => .ok (l, none) h
  | .fz l => .ok (l, none) h
  | .str s => if s.length ≤ lineN then .ok (s.map (fun c => .str [c]), none) h else .fail
  | .ref i => match h[i]? with
    | some (.lst l) => .ok (l, some i) h
    | _ => .fail
  | _ => .fail
def iSeq (d : Den) : DenG Src := fun l h => (d l h).bind vIter
/-- from an expression's result on, for what walks -/
theorem tG_I {K : PySem.W.Frag} {W : WX} {σ : L2.St} {g : Gh} {H : Hp} {l : Loc} {h : Hv} {α β : Type} {rel : Gh → Hp → α → β → Prop} {d : DenG α} {k : α → Hv → Res Src} {R : It → Hp → Prop} {R' : β → Hp → Prop} (S : SR K g H l σ) (hr : HR K g H h)
    (A : AfterI K W σ g H R ((d l h).bind k))
    (hk : ∀ v h1 g1 H1 x, Ext g H g1 H1 → SR K g1 H1 l σ → HR K g1 H1 h1 → rel g1 H1 v x → AfterI K W σ g1 H1 R (k v h1) → R' x H1) : tG K W rel d σ H R' := by
  refine ⟨g, l, h, S, hr, ?_⟩
  cases e : d l h with
  | ok v h1 =>
    rw [e] at A
    simp only [Res.bind_ok] at A
    intro g' H' x E R1 r
    refine hk v h1 g' H' x E (S.ext hr E) R1 r ?_
    cases ek : k v h1 with
    | ok s h2 => rw [ek] at A; exact ⟨A.1, fun g2 H2 J E2 => A.2 g2 H2 J (E.trans E2)⟩
    | exc x h2 => rw [ek] at A; exact fun g2 H2 c d E2 => A g2 H2 c d (E.trans E2)
    | fail => rw [ek] at A; exact A
  | exc x h1 => rw [e] at A; exact A
  | fail => rw [e] at A; exact A
section
variable {X : Cx} {W : WX}
theorem gi_seq {tg e : Expr} {d : Den} (he : GE X W e d) : GI X W tg e (iSeq d) := by
  refine ⟨fun pins s σ H R I ⟨g, l, h, S, Rh, A⟩ => ?_⟩
  have start : tG X.K W (vr X.K) d σ H fun x H1 => ∃ v h1 g1, HR X.K g1 H1 h1 ∧ VR X.K g1 H1 v x ∧ AfterI X.K W σ g1 H1 R (vIter v h1) :=
    tG_I S Rh A fun v h1 g1 H1 x E S1 R1 r1 A1 => ⟨v, h1, g1, R1, r1, A1⟩
  refine thn (he.run pins s σ H _ I start) fun u s1 ⟨x, H1, I1, r1, v, h1, g1, R1, rv, A1⟩ => ?_
  have lists : ∀ a xs items, x = .ref a → a ∉ g1.m → SqL X.K H1 a xs → VRs X.K g1 H1 items xs → AfterI X.K W σ g1 H1 R (.ok (items, none) h1) → wpAny (model X.prog X.w) X.A (pyIter u) (PIE X pins σ tg R) X.xe s1 := by
    rintro a xs items rfl na hq r A1
    cases r1
    obtain ⟨its, rv, p, hz⟩ := I1.list hq
    refine wpAny_pyIter_list p.isList (pi_one (tk := s1.toks) I1 _ (turn_list _ _) ⟨_, Heap.get?_push_size _ rfl, rfl, rfl⟩ (A1.2 g1 H1 _ Ext.refl R1 (by show items.length ≤ _; rw [r.length]; exact hz) (serves_list R1 na hq r)))
  cases v with
  | tup items =>
    simp only [VR] at rv
    obtain ⟨a, xs, rfl, hq, r⟩ := rv
    cases r1
    obtain ⟨its, rv, p, hz⟩ := I1.tuple hq
    exact wpAny_pyIter_tuple (show s1.heap.IsTuple a its.toArray from p) (pi_one (tk := s1.toks) I1 _ (turn_tuple _ _) ⟨_, Heap.get?_push_size _ rfl, rfl, rfl⟩ (A1.2 g1 H1 _ Ext.refl R1 (by show items.length ≤ _; rw [r.length]; exact hz) (serves_tup R1 hq r)))
  | lst items =>
    simp only [VR] at rv
    obtain ⟨a, xs, rfl, na, hq, r⟩ := rv
    exact lists a xs items rfl (fun z => na (.inl z)) (SqL.of hq) r A1
  | fz items =>
    simp only [VR] at rv
    obtain ⟨a, xs, rfl, hq, r⟩ := rv
    cases r1
    obtain ⟨its, rv, p, hz⟩ := I1.list hq.sq
    exact wpAny_pyIter_list p.isList (pi_one (tk := s1.toks) I1 _ (turn_list _ _) ⟨_, Heap.get?_push_size _ rfl, rfl, rfl⟩ (A1.2 g1 H1 _ Ext.refl R1 (by show items.length ≤ _; rw [r.length]; exact hz) (serves_fz R1 hq r)))
  | str z =>
    simp only [VR] at rv
    subst rv
    obtain ⟨t, rfl⟩ := r1
    simp only [vIter] at A1
    split at A1
    · rename_i hz
      have q := A1.2 g1 H1 _ Ext.refl R1 (by simpa using line_ok hz) serves_str
      cases ha : (sOf z).cps.all (· < 128)
      · exact wpAny_pyIter_wide ha (pi_one (tk := s1.toks) I1 _ (turn_str _ _ t "str_iterator" (.inr rfl)) ⟨_, Heap.get?_push_size _ rfl, rfl, rfl⟩ q)
      · exact wpAny_pyIter_ascii ha (pi_one (tk := s1.toks) I1 _ (turn_str _ _ t "str_ascii_iterator" (.inl rfl)) ⟨_, Heap.get?_push_size _ rfl, rfl, rfl⟩ q)
    · exact A1.elim
  | ref i =>
    simp only [vIter] at A1
    split at A1
    · rename_i items hi
      simp only [VR] at rv
      obtain ⟨a, rfl, hm⟩ := rv
      obtain ⟨xs, e1, r⟩ := ref_at R1 hi hm
      cases r1
      obtain ⟨its, rv, p, hz⟩ := I1.list (SqL.of e1)
      exact wpAny_pyIter_list p.isList (pi_one (tk := s1.toks) I1 _ (turn_list _ _) ⟨_, Heap.get?_push_size _ rfl, rfl, rfl⟩ (A1.2 g1 H1 _ Ext.refl R1 (by show items.length ≤ _; rw [r.length]; exact hz) (serves_ref hm)))
    · exact A1.elim
  | _ => exact A1.elim
/-! ### range -/
def vRange1 (v : Val) (h : Hv) : Res Src := match v with
  | .int j => if -(2 ^ 62) ≤ j ∧ j ≤ 16777216 then .ok (rangeL 0 j.toNat, none) h else .fail
  | _ => .fail
def vRange2 (v u : Val) (h : Hv) : Res Src := match v, u with
  | .int i, .int j => if -(2 ^ 62) ≤ i ∧ i < 2 ^ 62 ∧ -(2 ^ 62) ≤ j ∧ j < 2 ^ 62 ∧ j - i ≤ 16777216 then .ok (rangeL i (j - i).toNat, none) h else .fail
  | _, _ => .fail
def iRange1 (d : Den) : DenG Src := fun l h => (d l h).bind vRange1
def iRange2 (a b : Den) : DenG Src := fun l h => (a l h).bind fun v h1 => (b l h1).bind fun u h2 => vRange2 v u h2
theorem rangeL_len (lo : Int) (n : Nat) : (rangeL lo n).length = n := by simp [rangeL]
theorem gi_range1 {tg a : Expr} {d : Den} {p pos : Pos} (he : GE X W a d) (hm : X.mg "range" = none) (hg : Gl X "range" := by rfl) (hs : starEach [a] X.env = (false, eval a X.env) :: starEach [] X.env := by rfl) (hs1 : starEach [a] X.env = [(false, eval a X.env)] := by rfl) : GI X W tg (.Call (.Name "range" p) [a] [] pos) (iRange1 d) := by
  refine PI.imp (pi_range1 hg hm (pa_cons he pa_nil hs) hs1) fun pins s σ H R I ⟨g, l, h, S, Rh, A⟩ => ?_
  refine tG_I S Rh A fun v h1 g1 H1 x E S1 R1 r1 A1 => ?_
  cases v with
  | int j =>
    simp only [VR] at r1
    subst r1
    simp only [vRange1] at A1
    split at A1
    · rename_i c
      exact ⟨j, rfl, c.1, by omega, A1.2 g1 H1 _ Ext.refl R1 (by show (rangeL 0 j.toNat).length ≤ _; rw [rangeL_len, sizeLine_eq]; omega) serves_range⟩
    · exact A1.elim
  | _ => exact A1.elim
theorem gi_range2 {tg a b : Expr} {da db : Den} {p pos : Pos} (ha : GE X W a da) (hb : GE X W b db) (hm : X.mg "range" = none) (hg : Gl X "range" := by rfl) (hs : starEach [a, b] X.env = (false, eval a X.env) :: starEach [b] X.env := by rfl) (hs1 : starEach [a, b] X.env = [(false, eval a X.env), (false, eval b X.env)] := by rfl)
    (hs2 : starEach [b] X.env = (false, eval b X.env) :: starEach [] X.env := by rfl) (hs3 : starEach [b] X.env = [(false, eval b X.env)] := by rfl) : GI X W tg (.Call (.Name "range" p) [a, b] [] pos) (iRange2 da db) := by
  refine PI.imp (pi_range2 hg hm (pa_cons ha (pa_cons hb pa_nil hs2) hs) hs1 hs3) fun pins s σ H R I ⟨g, l, h, S, Rh, A⟩ => ?_
  refine tG_I S Rh A fun v h1 g1 H1 x E S1 R1 r1 A1 => ?_
  refine tG_I S1 R1 A1 fun u h2 g2 H2 y E2 S2 R2 r2 A2 => ?_
  cases v with
  | int i =>
    cases u with
    | int j =>
      simp only [VR] at r1 r2
      subst r1 r2
      simp only [vRange2] at A2
      split at A2
      · rename_i c
        exact ⟨i, j, rfl, ⟨c.1, c.2.1, c.2.2.1, c.2.2.2.1⟩, A2.2 g2 H2 _ Ext.refl R2 (by show (rangeL i (j - i).toNat).length ≤ _; rw [rangeL_len, sizeLine_eq]; omega) serves_range⟩
      · exact A2.elim
    | _ => exact A2.elim
  | _ => exact A2.elim

/-! ### comprehensions -/
/-- the target of a comprehension: it writes the block's own slots alone -/
def tTc (K : PySem.W.Frag) (vs : List Nat) (d : Tg) : TG := fun x σ H Q => ∃ g l h v, SR K g H l σ ∧ HR K g H h ∧ VR K g H v x ∧ match d v l h with
  | .ok l' h' => ∀ g' H' σ', Ext g H g' H' → HR K g' H' h' → SR K g' H' l' σ' → wipe σ' vs = wipe σ vs → Q σ' H'
  | _ => False
def tTcs (K : PySem.W.Frag) (vs : List Nat) (d : Tgs) : TGs := fun x σ H Q => ∃ g l h v, SR K g H l σ ∧ HR K g H h ∧ VRs K g H v x ∧ match d v l h with
  | .ok l' h' => ∀ g' H' σ', Ext g H g' H' → HR K g' H' h' → SR K g' H' l' σ' → wipe σ' vs = wipe σ vs → Q σ' H'
  | _ => False
def GC (X : Cx) (vs : List Nat) (tg : Expr) (d : Tg) : Prop := PG X tg (tTc X.K vs d)
def GCs (X : Cx) (vs : List Nat) (tg : List Expr) (d : Tgs) : Prop := PGs X tg (tTcs X.K vs d)
theorem wipe_set : ∀ {vs : List Nat} {σ : L2.St} {i : Nat} {x : Option V}, i ∈ vs → wipe (σ.set i x) vs = wipe σ vs
  | [], _, _, _, h => nomatch h
  | v :: vs, σ, i, x, h => by
    unfold wipe
    by_cases hi : i ∈ vs
    · rw [wipe_set hi]
    · have hv : i = v := by
        rcases List.mem_cons.mp h with h | h
        · exact h
        · exact absurd h hi
      subst hv
      have gen : ∀ (us : List Nat), wipe (σ.set i x) us = (wipe σ us).set i x ∨ wipe (σ.set i x) us = wipe σ us := by
        intro us
        induction us with
        | nil => exact .inl rfl
        | cons u us ih =>
          unfold wipe
          rcases ih with e | e
          · rw [e]
            by_cases hu : i = u
            · subst hu; right; rw [List.set_set]
            · left; rw [List.set_comm _ _ hu]
          · right; rw [e]
      rcases gen vs with e | e
      · rw [e, List.set_set]
      · rw [e]
theorem gc_name (i : Nat) {x : Str} {pos : Pos} {vs : List Nat} (hN : X.N.Nodup) (hv : i ∈ vs := by decide) (hi : X.N[i]? = some x := by rfl) (hx : L2.Loc X.env.scope x := by first | exact Or.inl rfl | exact Or.inr rfl) (hf : X.fn x = true ∨ X.env.scope.names.lookup x = some .local := by first | exact .inl rfl | exact .inr rfl) : GC X vs (.Name x pos) (gName i) := by
  refine PG.imp (pg_name hN hi hx hf) fun y σ H Q ⟨g, l, h, v, S, R, r, A⟩ => ?_
  exact A g H _ Ext.refl R (S.set i r) (wipe_set hv)
theorem gcs_nil {vs : List Nat} : GCs X vs [] gsNil := by
  refine PGs.imp pgs_nil fun y σ H Q ⟨g, l, h, v, S, R, r, A⟩ => ?_
  cases v with
  | nil =>
    simp only [VRs] at r
    exact ⟨r, A g H σ Ext.refl R S rfl⟩
  | cons v vs => exact A.elim
theorem gcs_cons {vs : List Nat} {e : Expr} {es : List Expr} {t : Tg} {u : Tgs} (h1 : GC X vs e t) (h2 : GCs X vs es u)
    (hs : (assignEach (e :: es) X.env).map (·.2) = assign e X.env :: (assignEach es X.env).map (·.2) := by rfl) : GCs X vs (e :: es) (gsCons t u) := by
  refine PGs.imp (pgs_cons h1 h2 hs) fun y σ H Q ⟨g, l, h, v, S, R, r, A⟩ => ?_
  cases v with
  | nil => exact A.elim
  | cons v ws =>
    simp only [VRs] at r
    obtain ⟨x, r', rfl, q1, q2⟩ := r
    refine ⟨x, r', rfl, g, l, h, v, S, R, q1, ?_⟩
    simp only [gsCons] at A
    cases e : t v l h with
    | ok l1 h1 =>
      rw [e] at A
      simp only [TRes.bind_ok] at A
      intro g' H' σ' E R' S' w
      refine ⟨g', l1, h1, ws, S', R', q2.ext R E, ?_⟩
      cases e2 : u ws l1 h1 with
      | ok l2 h2 =>
        rw [e2] at A
        exact fun g2 H2 σ2 E2 R2 S2 w2 => A g2 H2 σ2 (E.trans E2) R2 S2 (w2.trans w)
      | exc x l1 h1 => rw [e2] at A; exact A
      | fail => rw [e2] at A; exact A
    | exc x l1 h1 => rw [e] at A; exact A
    | fail => rw [e] at A; exact A
theorem gc_tup {vs : List Nat} {es : List Expr} {k : Nat} {t : Tgs} {n : Nat} {pos : Pos} (hc : X.calm = true) (h : GCs X vs es t)
    (hn : (assignEach es X.env).length = n := by rfl) (hst : (assignEach es X.env).findIdx? (·.1) = none := by rfl) : GC X vs (.Tuple es k pos) (gTup n t) := by
  refine PG.imp (pg_tup hc h hn hst) fun y σ H Q ⟨g, l, h, v, S, R, r, A⟩ => ?_
  cases v with
  | tup ws =>
    simp only [VR] at r
    obtain ⟨a, xs, rfl, q1, q2⟩ := r
    unfold gTup at A
    simp only at A
    split at A
    · rename_i l' h' e
      split at e
      · rename_i hl2
        exact ⟨a, xs, rfl, q1, by rw [← q2.length]; exact hl2, g, l, h, ws, S, R, q2, by rw [e]; exact A⟩
      · cases e
    · exact A.elim
  | _ => exact A.elim
end
end GH

set_option Elab.async false
set_option linter.all false
set_option maxRecDepth 100000
set_option maxHeartbeats 1000000
set_option autoImplicit false
/-! List comprehensions, one clause. -/
namespace GH
open PySem PySem.Spec PyProof.Rows L2

section
variable {K : PySem.W.Frag} {g : Gh} {H : Hp} {D : Addr} {ds zs : HO}
mutual
theorem VR.reset (hD : D ∈ g.r) (e0 : H D = some ds) (mu : Mut (some ds)) : ∀ {v : Val} {x : V}, VR K g H v x → VR K g (upd H D zs) v x
  | .non, x, q => by simpa only [VR] using q
  | .bl b, x, q => by simpa only [VR] using q
  | .int i, x, q => by simpa only [VR] using q
  | .str s, x, q => by simpa only [VR] using q
  | .tup l, x, q => by
    simp only [VR] at q ⊢
    obtain ⟨a, xs, e, s, r⟩ := q
    refine ⟨a, xs, e, ?_, VRs.reset hD e0 mu r⟩
    rcases s with (s | ⟨o, s⟩) | s
    · exact .inl (.inl (by rw [upd_ne (show a ≠ D by rintro rfl; rw [e0] at s; cases s; exact mu)]; exact s))
    · exact .inl (.inr ⟨o, by rw [upd_ne (show a ≠ D by rintro rfl; rw [e0] at s; cases s; exact mu)]; exact s⟩)
    · exact .inr s
  | .lst l, x, q => by
    simp only [VR] at q ⊢
    obtain ⟨a, xs, e, n, s, r⟩ := q
    exact ⟨a, xs, e, n, by rw [upd_ne (show a ≠ D by rintro rfl; exact n (.inr hD))]; exact s, VRs.reset hD e0 mu r⟩
  | .fz l, x, q => by
    simp only [VR] at q ⊢
    obtain ⟨a, xs, e, s, r⟩ := q
    exact ⟨a, xs, e, s.imp fun o s => by rw [upd_ne (show a ≠ D by rintro rfl; rw [e0] at s; cases s; exact mu)]; exact s, VRs.reset hD e0 mu r⟩
  | .ref i, x, q => by simpa only [VR] using q
theorem VRs.reset (hD : D ∈ g.r) (e0 : H D = some ds) (mu : Mut (some ds)) : ∀ {l : List Val} {xs : List V}, VRs K g H l xs → VRs K g (upd H D zs) l xs
  | [], xs, q => by simpa only [VRs] using q
  | v :: l, xs, q => by
    simp only [VRs] at q ⊢
    obtain ⟨x, r, e, q1, q2⟩ := q
    exact ⟨x, r, e, VR.reset hD e0 mu q1, VRs.reset hD e0 mu q2⟩
end
theorem HR.reset {h : Hv} (R : HR K g H h) (hD : D ∈ g.r) (e0 : H D = some ds) (mu : Mut (some ds)) (mz : Mut (some zs)) : HR K g (upd H D zs) h := by
  refine ⟨R.len, R.nd, R.dis, fun a ha => ?_, fun i o a e1 e2 => ?_⟩
  · by_cases q : a = D
    · subst q; exact ⟨_, upd_same, mz⟩
    · obtain ⟨ob, e, mo⟩ := R.al a ha
      exact ⟨ob, by rw [upd_ne q]; exact e, mo⟩
  · have hne : a ≠ D := fun z => R.dis a (List.mem_of_getElem? e2) (by rw [z]; exact hD)
    have q := R.obj i o a e1 e2
    cases o with
    | lst l => obtain ⟨xs, e, r⟩ := q; exact ⟨xs, by rw [upd_ne hne]; exact e, r.reset hD e0 mu⟩
    | dic l => obtain ⟨xs, e, r⟩ := q; exact ⟨xs, by rw [upd_ne hne]; exact e, r.1, r.2.reset hD e0 mu⟩
    | ins c f => obtain ⟨dx, gs, e, r⟩ := q; exact ⟨dx, gs, by rw [upd_ne hne]; exact e, r.1, r.2.reset hD e0 mu⟩
theorem Ext.reset {g' : Gh} {H' : Hp} {xs : HO} (E : Ext g H g' H') (hD : D ∉ g.m) (e0 : H D = some ds) : Ext g (upd H D xs) g' (upd H' D xs) := by
  obtain ⟨t, em, n⟩ := E.m
  refine ⟨⟨t, em, fun b hb => ?_⟩, E.r, fun b o e hb => ?_, fun b o e => ?_⟩
  · have hne : b ≠ D := by rintro rfl; rw [n _ hb] at e0; cases e0
    rw [upd_ne hne]; exact n b hb
  · by_cases q : b = D
    · subst q; rw [upd_same] at e ⊢; exact e
    · rw [upd_ne q] at e ⊢; exact E.keep b o e hb
  · by_cases q : b = D
    · subst q; exact ⟨_, upd_same⟩
    · rw [upd_ne q] at e ⊢; exact E.there b o e
mutual
theorem VR.own {g' : Gh} {t : List Addr} (hm : g'.m = g.m ++ t) (ho : ∀ a, ¬ g.own a → ¬ g'.own a) : ∀ {v : Val} {x : V}, VR K g H v x → VR K g' H v x
  | .non, x, q => by simpa only [VR] using q
  | .bl b, x, q => by simpa only [VR] using q
  | .int i, x, q => by simpa only [VR] using q
  | .str s, x, q => by simpa only [VR] using q
  | .tup l, x, q => by
    simp only [VR] at q ⊢
    obtain ⟨a, xs, e, s, r⟩ := q
    exact ⟨a, xs, e, s, VRs.own hm ho r⟩
  | .lst l, x, q => by
    simp only [VR] at q ⊢
    obtain ⟨a, xs, e, n, s, r⟩ := q
    exact ⟨a, xs, e, ho a n, s, VRs.own hm ho r⟩
  | .fz l, x, q => by
    simp only [VR] at q ⊢
    obtain ⟨a, xs, e, s, r⟩ := q
    exact ⟨a, xs, e, s, VRs.own hm ho r⟩
  | .ref i, x, q => by
    simp only [VR] at q ⊢
    obtain ⟨a, e, h⟩ := q
    exact ⟨a, e, by rw [hm, List.getElem?_append_left (List.getElem?_eq_some_iff.mp h).1]; exact h⟩
theorem VRs.own {g' : Gh} {t : List Addr} (hm : g'.m = g.m ++ t) (ho : ∀ a, ¬ g.own a → ¬ g'.own a) : ∀ {l : List Val} {xs : List V}, VRs K g H l xs → VRs K g' H l xs
  | [], xs, q => by simpa only [VRs] using q
  | v :: l, xs, q => by
    simp only [VRs] at q ⊢
    obtain ⟨x, r, e, q1, q2⟩ := q
    exact ⟨x, r, e, VR.own hm ho q1, VRs.own hm ho q2⟩
end
theorem HR.less {r' : List Addr} {h : Hv} (R : HR K g H h) (hr : ∀ b ∈ r', b ∈ g.r) : HR K ⟨g.m, r'⟩ H h := by
  have hm : (Gh.mk g.m r').m = g.m ++ [] := by simp
  have ho : ∀ a, ¬ g.own a → ¬ (Gh.mk g.m r').own a := fun a n z => n (z.elim .inl fun z => .inr (hr a z))
  refine ⟨R.len, R.nd, fun a ha z => R.dis a ha (hr a z), fun a ha => R.al a (hr a ha), fun i o a e1 e2 => ?_⟩
  have q := R.obj i o a e1 e2
  cases o with
  | lst l => obtain ⟨xs, e, r⟩ := q; exact ⟨xs, e, r.own hm ho⟩
  | dic l => obtain ⟨xs, e, r⟩ := q; exact ⟨xs, e, r.1, r.2.own hm ho⟩
  | ins c f => obtain ⟨dx, gs, e, r⟩ := q; exact ⟨dx, gs, e, r.1, r.2.own hm ho⟩
theorem SR.extS {g' : Gh} {H' : Hp} {h : Hv} {l : Loc} {σ : L2.St} (S : SR K g H l σ) (R : HR K g H h) (E : ExtS g H g' H') : SR K g' H' l σ :=
  ⟨S.len, fun i v e => by obtain ⟨x, e1, e2⟩ := S.at_ i v e; exact ⟨x, e1, e2.extS R E⟩⟩
/-- the slots of the block's own names forgotten -/
def wipeL (l : Loc) : List Nat → Loc
  | [] => l
  | v :: vs => (wipeL l vs).set v none
theorem wipeL_some {l : Loc} {i : Nat} {x : Val} : ∀ {vs : List Nat}, (wipeL l vs)[i]? = some (some x) → l[i]? = some (some x) ∧ i ∉ vs
  | [], h => ⟨h, by simp⟩
  | v :: vs, h => by
    unfold wipeL at h
    by_cases hi : v = i
    · subst hi
      by_cases hv : v < (wipeL l vs).length
      · rw [List.getElem?_set_self hv] at h; cases h
      · rw [List.getElem?_eq_none (by simpa using hv)] at h; cases h
    · rw [List.getElem?_set_ne hi] at h
      obtain ⟨h1, h2⟩ := wipeL_some h
      exact ⟨h1, by simp only [List.mem_cons, not_or]; exact ⟨fun e => hi e.symm, h2⟩⟩
theorem wipeL_len (l : Loc) : ∀ vs, (wipeL l vs).length = l.length
  | [] => rfl
  | v :: vs => by unfold wipeL; rw [List.length_set, wipeL_len l vs]
theorem SR.wipe {l : Loc} {σ : L2.St} (S : SR K g H l σ) (vs : List Nat) : SR K g H (wipeL l vs) (L2.wipe σ vs) := by
  refine ⟨by rw [wipeL_len, L2.wipe_length, S.len], fun i v e => ?_⟩
  obtain ⟨e1, n⟩ := wipeL_some e
  obtain ⟨x, e2, r⟩ := S.at_ i v e1
  exact ⟨x, by rw [L2.wipe_out n]; exact e2, r⟩
theorem wipe_wipe {σ : L2.St} {vs : List Nat} : ∀ {us : List Nat}, (∀ u ∈ us, u ∈ vs) → L2.wipe (L2.wipe σ us) vs = L2.wipe σ vs
  | [], _ => rfl
  | u :: us, h => by
    show L2.wipe ((L2.wipe σ us).set u none) vs = _
    rw [wipe_set (h u (List.mem_cons_self ..)), wipe_wipe fun w hw => h w (List.mem_cons_of_mem _ hw)]
end

/-! ### the block -/
open Classical in
noncomputable def lcL (t : Tg) (c : DenG Bool) (e : Den) (s : Src) : List Val → List Val → Loc → Hv → Res (List Val)
  | [], acc, _, h => if srcOk s h then .ok acc h else .fail
  | x :: r, acc, l, h => if srcOk s h then (match t x l h with
    | .ok l1 h1 => (match c l1 h1 with
      | .ok b h2 => if b = true then (match e l1 h2 with
        | .ok v h3 => lcL t c e s r (acc ++ [v]) l h3
        | _ => .fail) else lcL t c e s r acc l h2
      | _ => .fail)
    | _ => .fail) else .fail
/-- what becomes of the items: a list that nobody writes, or one of ours -/
def frozen (ys : List Val) (h : Hv) : Res Val := .ok (.lst ys) h
def ours (ys : List Val) (h : Hv) : Res Val := .ok (.ref h.length) (h ++ [.lst ys])
noncomputable def dLc (fin : List Val → Hv → Res Val) (vs : List Nat) (di : DenG Src) (t : Tg) (c : DenG Bool) (e : Den) : Den := fun l h => (di l h).bind fun s h1 => (lcL t c e s s.1 [] (wipeL l vs) h1).bind fin
def W0 : WX := fun _ _ _ _ => False
/-- what a list at a new place may become -/
def FinOk (K : PySem.W.Frag) (fin : List Val → Hv → Res Val) : Prop := ∀ {W : WX} {σ : L2.St} {g1 g2 : Gh} {H1 H : Hp} {h : Hv} {Q : VK} {D : Addr} {ys : List Val} {xs : List V},
  H1 D = none → (∀ b ∈ g1.r, ∃ o, H1 b = some o) → D ∈ g2.r → g2.r = D :: g1.r → H D = some (.lst xs) → Ext g1 H1 ⟨g2.m, g1.r⟩ H → HR K g2 H h → VRs K g2 H ys xs → After K W (vr K) σ g1 H1 Q (fin ys h) → Q (.ref D) H
theorem fin_frozen {K : PySem.W.Frag} : FinOk K frozen := by
  intro W σ g1 g2 H1 H h Q D ys xs nD al hD er eD E R r A
  have hr : ∀ b ∈ g1.r, b ∈ g2.r := fun b hb => by rw [er]; exact List.mem_cons_of_mem _ hb
  refine A ⟨g2.m, g1.r⟩ H (.ref D) E (R.less hr) ?_
  simp only [VR]
  refine ⟨D, xs, rfl, ?_, eD, r.own (g' := ⟨g2.m, g1.r⟩) (t := []) (by simp) (show ∀ a, ¬ g2.own a → ¬ (Gh.mk g2.m g1.r).own a from fun a n z => n (z.elim .inl fun z => .inr (hr a z)))⟩
  rintro (z | z)
  · exact R.dis D z hD
  · obtain ⟨o, e⟩ := al D z
    rw [nD] at e; cases e
theorem fin_ours {K : PySem.W.Frag} : FinOk K ours := by
  intro W σ g1 g2 H1 H h Q D ys xs nD al hD er eD E R r A
  have hr : ∀ b ∈ g1.r, b ∈ g2.r := fun b hb => by rw [er]; exact List.mem_cons_of_mem _ hb
  have nm : D ∉ g2.m := fun z => R.dis D z hD
  have nr : D ∉ g1.r := fun z => by obtain ⟨o, e⟩ := al D z; rw [nD] at e; cases e
  obtain ⟨t, em, n⟩ := E.m
  have em : g2.m = g1.m ++ t := em
  have E' : Ext g1 H1 ⟨g2.m ++ [D], g1.r⟩ H := ⟨⟨t ++ [D], by show g2.m ++ [D] = _; rw [em, List.append_assoc], fun b hb => by
    rcases List.mem_append.mp hb with hb | hb
    · exact n b hb
    · rw [List.mem_singleton.mp hb]; exact nD⟩, rfl, E.keep, E.there⟩
  have hm : (Gh.mk (g2.m ++ [D]) g1.r).m = g2.m ++ [D] := rfl
  have ho : ∀ a, ¬ g2.own a → ¬ (Gh.mk (g2.m ++ [D]) g1.r).own a := fun a ha z => by
    rcases z with z | z
    · rcases List.mem_append.mp z with z | z
      · exact ha (.inl z)
      · exact ha (.inr (by rw [List.mem_singleton.mp z]; exact hD))
    · exact ha (.inr (hr a z))
  refine A ⟨g2.m ++ [D], g1.r⟩ H (.ref D) E' ⟨by simp [R.len], ?_, fun a ha => ?_, fun a ha => R.al a (hr a ha), fun i o a e1 e2 => ?_⟩ ?_
  · show (g2.m ++ [D]).Nodup
    refine List.nodup_append.mpr ⟨R.nd, by simp, fun a ha b hb => ?_⟩
    rw [List.mem_singleton.mp hb]
    rintro rfl
    exact nm ha
  · have ha : a ∈ g2.m ++ [D] := ha
    rcases List.mem_append.mp ha with ha | ha
    · exact fun z => R.dis a ha (hr a z)
    · rw [List.mem_singleton.mp ha]; exact nr
  · have e2 : (g2.m ++ [D])[i]? = some a := e2
    by_cases hi : i < h.length
    · rw [List.getElem?_append_left hi] at e1
      rw [List.getElem?_append_left (by rw [R.len]; exact hi)] at e2
      have q := R.obj i o a e1 e2
      cases o with
      | lst l => obtain ⟨xs, e, r⟩ := q; exact ⟨xs, e, r.own hm ho⟩
      | dic l => obtain ⟨xs, e, r⟩ := q; exact ⟨xs, e, r.1, r.2.own hm ho⟩
      | ins c f => obtain ⟨dx, gs, e, r⟩ := q; exact ⟨dx, gs, e, r.1, r.2.own hm ho⟩
    · have hi' : i = h.length := by
        have := (List.getElem?_eq_some_iff.mp e1).1
        simp at this
        omega
      subst hi'
      rw [List.getElem?_append_right (Nat.le_refl _)] at e1
      rw [List.getElem?_append_right (by rw [R.len]; exact Nat.le_refl _)] at e2
      simp at e1
      rw [R.len] at e2
      simp at e2
      subst e1 e2
      exact ⟨xs, eD, r.own hm ho⟩
  · simp only [VR]
    refine ⟨D, rfl, ?_⟩
    show (g2.m ++ [D])[h.length]? = some D
    rw [← R.len]
    simp
section
variable {K : PySem.W.Frag}
theorem lc_red {W : WX} {fin : List Val → Hv → Res Val} (hfin : FinOk K fin) {vs : List Nat} {di : DenG Src} {t : Tg} {c : DenG Bool} {e : Den} {σ : L2.St} {H : Hp} {Q : VK} (z : tG K W (vr K) (dLc fin vs di t c e) σ H Q) :
    tLc (tI K W di) (tTc K vs t) (tG K W0 br c) (tG K W0 (vr K) e) vs σ H Q := by
  obtain ⟨g, l, h, S, R, A⟩ := z
  refine ⟨g, l, h, S, R, ?_⟩
  unfold dLc at A
  unfold AfterI
  cases ed : di l h with
  | exc x h1 => rw [ed] at A; exact A
  | fail => rw [ed] at A; exact A
  | ok s h1 =>
    rw [ed] at A
    simp only [Res.bind_ok] at A
    have ok1 : srcOk s h1 := by
      cases hs1 : s.1 with
      | nil =>
        rw [hs1] at A
        simp only [lcL] at A
        split at A
        · assumption
        · exact A.elim
      | cons x r =>
        rw [hs1] at A
        simp only [lcL] at A
        split at A
        · assumption
        · exact A.elim
    refine ⟨ok1, fun g1 H1 J E1 R1 hz sv D nD => ?_⟩
    have A := After.ext E1 A
    have al : ∀ b ∈ g1.r, ∃ o, H1 b = some o := fun b hb => R1.own_there (.inr hb)
    have S1 := S.ext R E1
    -- the new list is put aside
    have ES : ExtS g1 H1 ⟨g1.m, D :: g1.r⟩ (upd H1 D (.lst [])) := ⟨⟨[], by simp, by simp⟩, ⟨[D], rfl, fun b hb => by rw [List.mem_singleton.mp hb]; exact nD⟩, fun b o e hb => by rw [upd_ne (ne_of_none e nD)]; exact e⟩
    have RD : HR K ⟨g1.m, D :: g1.r⟩ (upd H1 D (.lst [])) h1 := by
      refine ⟨R1.len, R1.nd, fun a ha z => ?_, fun a ha => ?_, fun i o a e1 e2 => ?_⟩
      · rcases List.mem_cons.mp z with z | z
        · subst z; exact R1.fresh nD (.inl ha)
        · exact R1.dis a ha z
      · rcases List.mem_cons.mp ha with z | z
        · subst z; exact ⟨_, upd_same, trivial⟩
        · obtain ⟨ob, e, mo⟩ := R1.al a z
          exact ⟨ob, by rw [upd_ne (ne_of_none e nD)]; exact e, mo⟩
      · have q := R1.obj i o a e1 e2
        cases o with
        | lst l => obtain ⟨xs, e, r⟩ := q; exact ⟨xs, by rw [upd_ne (ne_of_none e nD)]; exact e, r.extS R1 ES⟩
        | dic l => obtain ⟨xs, e, r⟩ := q; exact ⟨xs, by rw [upd_ne (ne_of_none e nD)]; exact e, r.1, r.2.extS R1 ES⟩
        | ins c f => obtain ⟨dx, gs, e, r⟩ := q; exact ⟨dx, gs, by rw [upd_ne (ne_of_none e nD)]; exact e, r.1, r.2.extS R1 ES⟩
    let Wd : Nat → Hp → Prop := fun i H => ∃ g2 h2 ys xs, H D = some (.lst xs) ∧ Ext ⟨g1.m, D :: g1.r⟩ (upd H1 D (.lst [])) g2 (upd H D (.lst [])) ∧ HR K g2 H h2 ∧ VRs K g2 H ys xs ∧ xs.length ≤ i ∧ i ≤ s.1.length ∧
      After K W (vr K) σ g1 H1 Q ((lcL t c e s (s.1.drop i) ys (wipeL l vs) h2).bind fin)
    refine ⟨fun i m H => m = s.1.length - i ∧ Wd i H, ⟨s.1.length, by simp, ⟨g1.m, D :: g1.r⟩, h1, [], [], upd_same, by rw [upd_upd]; exact Ext.refl, RD, VRs.nil, by simp, Nat.zero_le _, by simpa using A⟩, ?_⟩
    rintro i m H ⟨rfl, g2, h2, ys, xs, eD, E, R2, r, hl, hil, A⟩
    have hDr : D ∈ g2.r := by rw [E.r]; exact List.mem_cons_self ..
    have hDm : D ∉ g2.m := fun z => R2.dis D z hDr
    obtain ⟨tm, em, nm⟩ := E.m
    have em : g2.m = g1.m ++ tm := em
    have nm : ∀ b ∈ tm, H1 b = none := fun b hb => by
      have q := nm b hb
      have hne : b ≠ D := by rintro rfl; rw [upd_same] at q; cases q
      rw [upd_ne hne] at q
      exact q
    have keep : ∀ b o, H1 b = some o → b ∉ g1.m → H b = some o := fun b o e hb => by
      have hne := ne_of_none e nD
      have q := E.keep b o (by rw [upd_ne hne]; exact e) hb
      rw [upd_ne hne] at q
      exact q
    have E2S : ExtS g1 H1 g2 H := ⟨⟨tm, em, nm⟩, ⟨[D], E.r, fun b hb => by rw [List.mem_singleton.mp hb]; exact nD⟩, keep⟩
    have E2 : Ext g1 H1 ⟨g2.m, g1.r⟩ H := ⟨⟨tm, em, nm⟩, rfl, keep, fun b o e => by
      have hne := ne_of_none e nD
      obtain ⟨o', q⟩ := E.there b o (by rw [upd_ne hne]; exact e)
      rw [upd_ne hne] at q
      exact ⟨o', q⟩⟩
    have S2 : SR K g2 H (wipeL l vs) (wipe σ vs) := (S1.extS R1 E2S).wipe vs
    cases hd : s.1.drop i with
    | nil =>
      have hle : s.1.length ≤ i := List.drop_eq_nil_iff.mp hd
      rw [hd] at A
      simp only [lcL] at A
      split at A
      · rename_i ok
        exact .inl ⟨(sv g2 H h2 E2S R2 ok i).2 (Nat.le_antisymm hil hle), hfin nD al hDr E.r eD E2 R2 r A⟩
      · exact A.elim
    | cons v rest =>
      have hlt : i < s.1.length := by
        by_cases q : i < s.1.length
        · exact q
        · rw [List.drop_eq_nil_iff.mpr (by omega)] at hd; cases hd
      have hv : s.1[i]? = some v := by
        have q := congrArg List.head? hd
        rw [List.head?_drop] at q
        simpa using q
      have hr : s.1.drop (i + 1) = rest := by
        have q := congrArg List.tail hd
        rw [List.tail_drop] at q
        simpa using q
      rw [hd] at A
      simp only [lcL] at A
      split at A
      · rename_i ok
        obtain ⟨go, yl⟩ := (sv g2 H h2 E2S R2 ok i).1 v hv
        refine .inr ⟨go, Wd (i + 1), fun H' q => ⟨s.1.length - (i + 1), by omega, rfl, q⟩, fun x H' y => ?_⟩
        obtain ⟨E3, R3, rx⟩ := yl x H' y
        refine ⟨g2, wipeL l vs, h2, v, S2.ext R2 E3, R3, rx, ?_⟩
        cases et : t v (wipeL l vs) h2 with
        | exc x l1 h1 => rw [et] at A; exact A
        | fail => rw [et] at A; exact A
        | ok l3 h3 =>
          rw [et] at A
          simp only at A
          intro g4 H4 σ4 E4 R4 S4 w4
          refine ⟨w4.trans (wipe_wipe fun _ hu => hu), g4, l3, h3, S4, R4, ?_⟩
          cases ec : c l3 h3 with
          | exc x h1 => rw [ec] at A; exact A.elim
          | fail => rw [ec] at A; exact A.elim
          | ok b h5 =>
            rw [ec] at A
            simp only at A
            intro g5 H5 b' E5 R5 eb
            obtain rfl : b = b' := eb
            have E25 := (E3.trans E4).trans E5
            have keepD : ∀ {g6 : Gh} {H6 : Hp}, Ext g2 H g6 H6 → H6 D = some (.lst xs) := fun E6 => E6.keep D _ eD hDm
            cases b with
            | false =>
              rw [if_neg Bool.false_ne_true] at A ⊢
              exact ⟨g5, h5, ys, xs, keepD E25, E.trans (E25.reset hDm eD), R5, r.ext R2 E25, by omega, hlt, by rw [hr]; exact A⟩
            | true =>
              rw [if_pos rfl] at A ⊢
              refine ⟨g5, l3, h5, S4.ext R4 E5, R5, ?_⟩
              cases ee : e l3 h5 with
              | exc x h1 => rw [ee] at A; exact A.elim
              | fail => rw [ee] at A; exact A.elim
              | ok y h6 =>
                rw [ee] at A
                simp only at A
                intro g6 H6 xv E6 R6 rv
                have E26 := E25.trans E6
                have hD6 : D ∈ g6.r := by rw [E26.r]; exact hDr
                have k6 := keepD E26
                refine ⟨xs, k6, by omega, g6, h6, ys ++ [y], xs ++ [xv], upd_same, ?_, R6.reset hD6 k6 trivial trivial, ((r.ext R2 E26).append (.one rv)).reset hD6 k6 trivial, by simp; omega, hlt, by rw [hr]; exact A⟩
                rw [upd_upd]
                exact E.trans (E26.reset hDm eD)
      · exact A.elim
end
section
variable {X : Cx} {W : WX}
def GTs (X : Cx) (W : WX) (es : List Expr) (d : DenG Bool) : Prop := PTs X es (tG X.K W br d)
def dYes : DenG Bool := fun _ h => .ok true h
theorem gts_nil : GTs X W [] dYes := ⟨fun pins s σ H Q I ⟨g, l, h, S, R, A⟩ => (pts_nil (X := X)).run pins s σ H Q I (A g H true Ext.refl R rfl)⟩
theorem gts_one {c : Expr} {d : DenG Bool} (hc : GT X W c d) : GTs X W [c] d := pts_one hc
theorem ge_lc {fin : List Val → Hv → Res Val} (hfin : FinOk X.K fin) {elt tg iter : Expr} {ifs : List Expr} {scope : Scope} (own : List (Str × Nat)) {pos : Pos} {di : DenG Src} {t : Tg} {c : DenG Bool} {e : Den} (hc : X.calm = true) (hN : X.N.Nodup) (hi : GI X W tg iter di)
    (hg : ∀ (s : Shared) (H : Hp) (C : Addr) (cl : List (Str × Addr)) (fp : List Addr), GC (X.blk s H scope (compEnvC scope cl C X.env) fp) (own.map (·.2)) tg t) (ht : ∀ (s : Shared) (H : Hp) (C : Addr) (cl : List (Str × Addr)) (fp : List Addr), GTs (X.blk s H scope (compEnvC scope cl C X.env) fp) W0 ifs c)
    (he : ∀ (s : Shared) (H : Hp) (C : Addr) (cl : List (Str × Addr)) (fp : List Addr), GE (X.blk s H scope (compEnvC scope cl C X.env) fp) W0 elt e) (ok : blkC X.N X.env.scope scope own = true := by first | rfl | decide +kernel) (hs : ∀ x, foldedSetIterable iter X.env x = pure x := by intro _; rfl) :
    GE X W (.ListComp elt [⟨tg, iter, ifs, 0⟩] scope pos) (dLc fin (own.map (·.2)) di t c e) :=
  PE.imp (pe_lc (g := tTc X.K (own.map fun p : Str × Nat => p.2) t) (tt := tG X.K W0 br c) (te := tG X.K W0 (vr X.K) e) hc hN hi (blkOk_by ok) hg ht he hs) fun σ H Q z => lc_red hfin z
theorem gs_setLc {fin : List Val → Hv → Res Val} (hfin : FinOk X.K fin) (i : Nat) {y : Str} {py : Pos} {elt tg iter : Expr} {ifs : List Expr} {scope : Scope} (own : List (Str × Nat)) {pos spos : Pos} {di : DenG Src} {t : Tg} {c : DenG Bool} {e : Den} (hc : X.calm = true) (hN : X.N.Nodup) (hi : GI X W tg iter di)
    (hg : ∀ (s : Shared) (H : Hp) (C : Addr) (cl : List (Str × Addr)) (fp : List Addr), GC (X.blk s H scope (compEnvC scope cl C X.env) fp) (own.map (·.2)) tg t) (ht : ∀ (s : Shared) (H : Hp) (C : Addr) (cl : List (Str × Addr)) (fp : List Addr), GTs (X.blk s H scope (compEnvC scope cl C X.env) fp) W0 ifs c)
    (he : ∀ (s : Shared) (H : Hp) (C : Addr) (cl : List (Str × Addr)) (fp : List Addr), GE (X.blk s H scope (compEnvC scope cl C X.env) fp) W0 elt e)
    (hy : X.N[i]? = some y := by rfl) (hyl : X.env.scope.names.lookup y = some .local := by rfl) (hsw : swapsWith (.ListComp elt [⟨tg, iter, ifs, 0⟩] scope pos) (some (.Name y py)) spos.line X.env = pure true := by exact sw_true rfl rfl rfl (by decide +kernel))
    (ok : blkC X.N X.env.scope scope own = true := by first | rfl | decide +kernel) (hs : ∀ x, foldedSetIterable iter X.env x = pure x := by intro _; rfl) :
    GS X W (.Assign [.Name y py] (.ListComp elt [⟨tg, iter, ifs, 0⟩] scope pos) spos) (sAsg (dLc fin (own.map (·.2)) di t c e) (gName i)) := by
  refine PS.imp (ps_setLc (g := tTc X.K (own.map fun p : Str × Nat => p.2) t) (tt := tG X.K W0 br c) (te := tG X.K W0 (vr X.K) e) hc hN hy hyl hsw hi (blkOk_by ok) hg ht he hs) fun D σ H ⟨g, l, h, S, R, A⟩ => ?_
  refine lc_red hfin ?_
  refine tG_to S R A fun v h1 g1 H1 x E S1 R1 r1 A1 => ?_
  exact A1 g1 H1 _ Ext.refl R1 (S1.set i r1)
end
end GH

set_option Elab.async false
set_option linter.all false
set_option maxRecDepth 100000
set_option maxHeartbeats 1000000
set_option autoImplicit false
/-! Defs, calls, raise, try. -/
namespace GH
open PySem PySem.Spec PyProof.Rows L2

/-! ### what a def yields -/
def runDef (n : Nat) (body : Stm) (args : List Val) (h : Hv) : Res Val := match body (args.map some ++ List.replicate (n - args.length) none) h with
  | .nx _ h' => .ok .non h'
  | .rt v h' => .ok v h'
  | .exc e _ h' => .exc e h'
  | _ => .fail
/-- behind a call -/
def AfterC (K : PySem.W.Frag) (g : Gh) (H : Hp) (Q : VK) (E : XK) : Res Val → Prop
  | .ok v h' => ∀ g' H' x, Ext g H g' H' → HR K g' H' h' → VR K g' H' v x → Q x H'
  | .exc e h' => ∀ g' H' cls d, Ext g H g' H' → HR K g' H' h' → ER K g' H' e cls d → E cls d H'
  | .fail => False
abbrev DF := List Val → Hv → Res Val
def spG (K : PySem.W.Frag) (D : DF) (n : Nat) : Sp := fun vs H Q E => vs.length = n ∧ ∃ g h args, HR K g H h ∧ VRs K g H args vs ∧ AfterC K g H Q E (D args h)

/-! ### lists that are handed back are frozen, what is no longer reached is forgotten -/
mutual
def frz (f : Nat → Option Val) : Val → Option Val
  | .non => some .non
  | .bl b => some (.bl b)
  | .int i => some (.int i)
  | .str s => some (.str s)
  | .tup l => (frzs f l).map .tup
  | .lst l => (frzs f l).map .lst
  | .fz l => (frzs f l).map .fz
  | .ref i => f i
def frzs (f : Nat → Option Val) : List Val → Option (List Val)
  | [] => some []
  | v :: l => (frz f v).bind fun w => (frzs f l).map (w :: ·)
end
def frzN (h : Hv) (n0 : Nat) : Nat → Nat → Option Val
  | 0, i => if i < n0 then some (.ref i) else none
  | k + 1, i => if i < n0 then some (.ref i) else match h[i]? with
    | some (.lst l) => (frzs (frzN h n0 k) l).map .lst
    | _ => none
mutual
def below (n : Nat) : Val → Bool
  | .tup l => belows n l
  | .lst l => belows n l
  | .fz l => belows n l
  | .ref i => decide (i < n)
  | _ => true
def belows (n : Nat) : List Val → Bool
  | [] => true
  | v :: l => below n v && belows n l
end
def belowO (n : Nat) : Ob → Bool
  | .lst l => belows n l
  | .dic l => belows n (l.map (·.2))
  | .ins _ fs => belows n (fs.map (·.2))
def kept (n : Nat) (h h' : Hv) : Prop := n ≤ h'.length ∧ ∀ i < n, h'[i]? = h[i]? ∨ ∀ o, h'[i]? = some o → belowO n o = true
open Classical in
noncomputable def tidy (r : Res Val) (h : Hv) : Res Val := match r with
  | .ok v h' => if kept h.length h h' then (match frz (frzN h' h.length h'.length) v with
    | some w => .ok w (h'.take h.length)
    | none => .fail) else .fail
  | .exc e h' => if kept h.length h h' ∧ e.fs = [] then .exc e (h'.take h.length) else .fail
  | .fail => .fail
section
variable {K : PySem.W.Frag} {g g' : Gh} {H H0 : Hp} {t : List Addr}
mutual
theorem VR.cut {n : Nat} (hn : n = g.m.length) (hm : g'.m = g.m ++ t) (ho : ∀ a, ¬ g'.own a → ¬ g.own a) : ∀ {v : Val} {x : V}, below n v = true → VR K g' H v x → VR K g H v x
  | .non, x, _, q => by simpa only [VR] using q
  | .bl b, x, _, q => by simpa only [VR] using q
  | .int i, x, _, q => by simpa only [VR] using q
  | .str s, x, _, q => by simpa only [VR] using q
  | .tup l, x, b, q => by
    simp only [VR] at q ⊢
    obtain ⟨a, xs, e, s, r⟩ := q
    exact ⟨a, xs, e, s, VRs.cut hn hm ho b r⟩
  | .lst l, x, b, q => by
    simp only [VR] at q ⊢
    obtain ⟨a, xs, e, n, s, r⟩ := q
    exact ⟨a, xs, e, ho a n, s, VRs.cut hn hm ho b r⟩
  | .fz l, x, b, q => by
    simp only [VR] at q ⊢
    obtain ⟨a, xs, e, s, r⟩ := q
    exact ⟨a, xs, e, s, VRs.cut hn hm ho b r⟩
  | .ref i, x, b, q => by
    simp only [VR] at q ⊢
    obtain ⟨a, e, h⟩ := q
    have hi : i < n := by simpa [below] using b
    exact ⟨a, e, by rw [hm, List.getElem?_append_left (by omega)] at h; exact h⟩
theorem VRs.cut {n : Nat} (hn : n = g.m.length) (hm : g'.m = g.m ++ t) (ho : ∀ a, ¬ g'.own a → ¬ g.own a) : ∀ {l : List Val} {xs : List V}, belows n l = true → VRs K g' H l xs → VRs K g H l xs
  | [], xs, _, q => by simpa only [VRs] using q
  | v :: l, xs, b, q => by
    simp only [VRs] at q ⊢
    obtain ⟨x, r, e, q1, q2⟩ := q
    have b : below n v = true ∧ belows n l = true := by simpa [belows] using b
    exact ⟨x, r, e, VR.cut hn hm ho b.1 q1, VRs.cut hn hm ho b.2 q2⟩
end
mutual
theorem VR.low {n : Nat} (hn : n = g.m.length) : ∀ {v : Val} {x : V}, VR K g H v x → below n v = true
  | .non, x, q => rfl
  | .bl b, x, q => rfl
  | .int i, x, q => rfl
  | .str s, x, q => rfl
  | .tup l, x, q => by
    simp only [VR] at q
    obtain ⟨a, xs, e, s, r⟩ := q
    exact VRs.low hn r
  | .lst l, x, q => by
    simp only [VR] at q
    obtain ⟨a, xs, e, n, s, r⟩ := q
    exact VRs.low hn r
  | .fz l, x, q => by
    simp only [VR] at q
    obtain ⟨a, xs, e, s, r⟩ := q
    exact VRs.low hn r
  | .ref i, x, q => by
    simp only [VR] at q
    obtain ⟨a, e, h⟩ := q
    have := (List.getElem?_eq_some_iff.mp h).1
    simp only [below, decide_eq_true_eq]
    omega
theorem VRs.low {n : Nat} (hn : n = g.m.length) : ∀ {l : List Val} {xs : List V}, VRs K g H l xs → belows n l = true
  | [], xs, q => rfl
  | v :: l, xs, q => by
    simp only [VRs] at q
    obtain ⟨x, r, e, q1, q2⟩ := q
    simp only [belows, VR.low hn q1, VRs.low hn q2, Bool.and_self]
end
theorem OR.low {n : Nat} (hn : n = g.m.length) {a : Addr} {o : Ob} (q : OR K g H a o) : belowO n o = true := by
  cases o with
  | lst l => obtain ⟨xs, e, r⟩ := q; exact r.low hn
  | dic l => obtain ⟨xs, e, r⟩ := q; exact r.2.low hn
  | ins c f => obtain ⟨dx, gs, e, r⟩ := q; exact r.2.low hn
theorem OR.cut {n : Nat} (hn : n = g.m.length) (hm : g'.m = g.m ++ t) (ho : ∀ a, ¬ g'.own a → ¬ g.own a) {a : Addr} {o : Ob} (b : belowO n o = true) (q : OR K g' H a o) : OR K g H a o := by
  cases o with
  | lst l => obtain ⟨xs, e, r⟩ := q; exact ⟨xs, e, r.cut hn hm ho b⟩
  | dic l => obtain ⟨xs, e, r⟩ := q; exact ⟨xs, e, r.1, r.2.cut hn hm ho b⟩
  | ins c f => obtain ⟨dx, gs, e, r⟩ := q; exact ⟨dx, gs, e, r.1, r.2.cut hn hm ho b⟩
mutual
theorem frz_ok {f : Nat → Option Val} (hf : ∀ i w x, f i = some w → VR K g' H (.ref i) x → VR K g H w x) (ho : ∀ a, ¬ g'.own a → ¬ g.own a) : ∀ {v w : Val} {x : V}, frz f v = some w → VR K g' H v x → VR K g H w x
  | .non, w, x, e, q => by simp only [frz, Option.some.injEq] at e; subst e; simpa only [VR] using q
  | .bl b, w, x, e, q => by simp only [frz, Option.some.injEq] at e; subst e; simpa only [VR] using q
  | .int i, w, x, e, q => by simp only [frz, Option.some.injEq] at e; subst e; simpa only [VR] using q
  | .str s, w, x, e, q => by simp only [frz, Option.some.injEq] at e; subst e; simpa only [VR] using q
  | .tup l, w, x, e, q => by
    simp only [frz, Option.map_eq_some_iff] at e
    obtain ⟨k, e, rfl⟩ := e
    simp only [VR] at q ⊢
    obtain ⟨a, xs, e2, s, r⟩ := q
    exact ⟨a, xs, e2, s, frzs_ok hf ho e r⟩
  | .lst l, w, x, e, q => by
    simp only [frz, Option.map_eq_some_iff] at e
    obtain ⟨k, e, rfl⟩ := e
    simp only [VR] at q ⊢
    obtain ⟨a, xs, e2, n, s, r⟩ := q
    exact ⟨a, xs, e2, ho a n, s, frzs_ok hf ho e r⟩
  | .fz l, w, x, e, q => by
    simp only [frz, Option.map_eq_some_iff] at e
    obtain ⟨k, e, rfl⟩ := e
    simp only [VR] at q ⊢
    obtain ⟨a, xs, e2, s, r⟩ := q
    exact ⟨a, xs, e2, s, frzs_ok hf ho e r⟩
  | .ref i, w, x, e, q => hf i w x e q
theorem frzs_ok {f : Nat → Option Val} (hf : ∀ i w x, f i = some w → VR K g' H (.ref i) x → VR K g H w x) (ho : ∀ a, ¬ g'.own a → ¬ g.own a) : ∀ {l k : List Val} {xs : List V}, frzs f l = some k → VRs K g' H l xs → VRs K g H k xs
  | [], k, xs, e, q => by simp only [frzs, Option.some.injEq] at e; subst e; simpa only [VRs] using q
  | v :: l, k, xs, e, q => by
    simp only [frzs, Option.bind_eq_some_iff, Option.map_eq_some_iff] at e
    obtain ⟨w, e1, k', e2, rfl⟩ := e
    simp only [VRs] at q ⊢
    obtain ⟨x, r, e3, q1, q2⟩ := q
    exact ⟨x, r, e3, frz_ok hf ho e1 q1, frzs_ok hf ho e2 q2⟩
end
theorem frzN_ok {h h' : Hv} (R : HR K g H0 h) (R' : HR K g' H h') (E : Ext g H0 g' H) (hm : g'.m = g.m ++ t) (ho : ∀ a, ¬ g'.own a → ¬ g.own a) : ∀ (k i : Nat) (w : Val) (x : V), frzN h' h.length k i = some w → VR K g' H (.ref i) x → VR K g H w x := by
  intro k
  have low : ∀ (i : Nat) (x : V), i < h.length → VR K g' H (.ref i) x → VR K g H (.ref i) x := fun i x hi q => by
    simp only [VR] at q ⊢
    obtain ⟨a, e, q⟩ := q
    exact ⟨a, e, by rw [hm, List.getElem?_append_left (by rw [R.len]; exact hi)] at q; exact q⟩
  induction k with
  | zero =>
    intro i w x e q
    simp only [frzN] at e
    split at e
    · rename_i hi
      cases e
      exact low i x hi q
    · cases e
  | succ k ih =>
    intro i w x e q
    simp only [frzN] at e
    split at e
    · rename_i hi
      cases e
      exact low i x hi q
    · rename_i hi
      split at e
      · rename_i l hl
        simp only [Option.map_eq_some_iff] at e
        obtain ⟨ys, e, rfl⟩ := e
        simp only [VR] at q
        obtain ⟨a, rfl, q⟩ := q
        obtain ⟨xs, e1, r⟩ := R'.obj i _ a hl q
        simp only [VR]
        refine ⟨a, xs, rfl, ?_, e1, frzs_ok ih ho e r⟩
        rintro (z | z)
        · obtain ⟨j, hj, ej⟩ := List.getElem_of_mem z
          have hj' : g'.m[j]? = some a := by
            rw [hm, List.getElem?_append_left hj, List.getElem?_eq_getElem hj, ej]
          have h1 := List.getElem?_eq_some_iff.mp q
          have h2 := List.getElem?_eq_some_iff.mp hj'
          obtain ⟨l1, p1⟩ := h1
          obtain ⟨l2, p2⟩ := h2
          have e3 : i = j := (List.getElem_inj R'.nd).mp (p1.trans p2.symm)
          rw [R.len] at hj
          omega
        · exact R'.dis a (List.mem_of_getElem? q) (by rw [E.r]; exact z)
      · cases e
theorem tidy_ok {h : Hv} {Q : VK} {E : XK} {r : Res Val} (R : HR K g H0 h) (A : AfterC K g H0 Q E (tidy r h)) : AfterC K g H0 Q E r := by
  have main : ∀ {g' : Gh} {H : Hp} {h' : Hv}, Ext g H0 g' H → HR K g' H h' → kept h.length h h' → Ext g H0 g H ∧ HR K g H (h'.take h.length) := fun {g' H h'} X R' kp => by
    obtain ⟨t, hm, nt⟩ := X.m
    have ho : ∀ a, ¬ g'.own a → ¬ g.own a := fun a n z => n (z.elim (fun z => .inl (by rw [hm]; exact List.mem_append_left _ z)) fun z => .inr (by rw [X.r]; exact z))
    refine ⟨⟨⟨[], by simp, by simp⟩, rfl, X.keep, X.there⟩, ⟨?_, R.nd, R.dis, fun a ha => R'.al a (by rw [X.r]; exact ha), fun i o a e1 e2 => ?_⟩⟩
    · rw [List.length_take, Nat.min_eq_left kp.1]; exact R.len
    · have hi : i < h.length := by rw [← R.len]; exact (List.getElem?_eq_some_iff.mp e2).1
      rw [List.getElem?_take_of_lt hi] at e1
      have hq : OR K g' H a o := R'.obj i o a e1 (by rw [hm, List.getElem?_append_left (by rw [R.len]; exact hi)]; exact e2)
      refine OR.cut (n := h.length) R.len.symm hm ho ?_ hq
      rcases kp.2 i hi with z | z
      · rw [z] at e1
        exact (R.obj i o a e1 e2).low R.len.symm
      · exact z o e1
  cases r with
  | ok v h' =>
    intro g' H x X R' rv
    simp only [tidy] at A
    split at A
    · rename_i kp
      split at A
      · rename_i w ew
        obtain ⟨E1, R1⟩ := main X R' kp
        obtain ⟨t, hm, nt⟩ := X.m
        have ho : ∀ a, ¬ g'.own a → ¬ g.own a := fun a n z => n (z.elim (fun z => .inl (by rw [hm]; exact List.mem_append_left _ z)) fun z => .inr (by rw [X.r]; exact z))
        exact A g H x E1 R1 (frz_ok (frzN_ok R R' X hm ho _) ho ew rv)
      · exact A.elim
    · exact A.elim
  | exc e h' =>
    intro g' H cls d X R' re
    simp only [tidy] at A
    split at A
    · rename_i kp
      obtain ⟨E1, R1⟩ := main X R' kp.1
      refine A g H cls d E1 R1 ?_
      unfold ER at re ⊢
      rw [kp.2] at re ⊢
      exact re
    · exact A.elim
  | fail => exact A
end

/-! ### a def keeps what its body yields -/
abbrev WD (E : XK) : WX := fun cls d _ H => E cls d H
section
variable {P : Program} {w : World} {K : PySem.W.Frag} {mg : Str → Option Value} {base : Heap}
theorem fn_G {name qual : Str} {params : Arguments} {body : List Stmt} {scope : Scope} {f : Addr} {fd : FuncData} {N ps : List Str} {k : Nat} {d : Stm} {D : DF} {dvs : List V} {kws : List (Str × V)} (F : FunD K name qual params body scope dvs kws f fd) (S : FnScope N ps scope)
    (hD : ∀ args h, args.length = ps.length → D args h = runDef N.length d args h ∨ D args h = tidy (runDef N.length d args h) h)
    (hbody : ∀ (cdv : Value) (A : Around) (outer : List Env) (s : Shared) (H : Hp) (E : XK), Room k (A.deeper (envOfC qual scope s.heap.objs.size f cdv)) →
      PassesOwn (model P w) (A.deeper (envOfC qual scope s.heap.objs.size f cdv)) (envOfC qual scope s.heap.objs.size f cdv) (cxOf (L2.CX P w) P w K mg base N qual scope f cdv A outer s H E).xe →
      Takes (cxOf (L2.CX P w) P w K mg base N qual scope f cdv A outer s H E) (WD E) →
      GSs (cxOf (L2.CX P w) P w K mg base N qual scope f cdv A outer s H E) (WD E) body d) : FnOk P w K mg base (L2.CX P w) (k + 1) f fd ps (spG K D ps.length) := by
  refine F.ok S (fun vs H Q E h => h.1) (fun cdv A outer s H vs Q E hr h => ⟨tS K (WD E) d, hbody cdv A outer s H E hr (passes_of rfl) (takes_of rfl rfl rfl rfl), ?_⟩)
  obtain ⟨hl, g, h, args, R, r, A⟩ := h
  have A : AfterC K g H Q E (runDef N.length d args h) := by
    rcases hD args h (by rw [r.length, hl]) with e | e
    · rw [e] at A; exact A
    · rw [e] at A; exact tidy_ok R A
  refine ⟨g, args.map some ++ List.replicate (N.length - args.length) none, h, ?_, R, ?_⟩
  · unfold L2.start
    refine ⟨by simp [r.length], fun i v e => ?_⟩
    by_cases hi : i < args.length
    · rw [List.getElem?_append_left (by simpa using hi), List.getElem?_map] at e
      cases ea : args[i]? with
      | none => rw [ea] at e; cases e
      | some a =>
        rw [ea] at e
        cases e
        obtain ⟨x, e1, e2⟩ := r.get ea
        exact ⟨x, by rw [List.getElem?_append_left (by simpa [← r.length] using hi), List.getElem?_map, e1]; rfl, e2⟩
    · rw [List.getElem?_append_right (by simpa using hi), List.getElem?_replicate] at e
      split at e <;> cases e
  · unfold runDef at A
    cases e : d (args.map some ++ List.replicate (N.length - args.length) none) h with
    | nx l h1 =>
      rw [e] at A
      intro g' H' σ' X R' S'
      exact A g' H' .non X R' (by simp only [VR])
    | rt v h1 => rw [e] at A; exact A
    | exc x l h1 =>
      rw [e] at A
      intro g' H' σ' cls dd X R' S' re
      exact A g' H' cls dd X R' re
    | bk l h1 => rw [e] at A; exact False.elim A
    | ct l h1 => rw [e] at A; exact False.elim A
    | fail => rw [e] at A; exact A
end

/-! ### calls -/
def dCall (D : DF) (r : DenG (List Val)) : Den := fun l h => (r l h).bind fun vs h1 => D vs h1
section
variable {X : Cx} {W : WX}
theorem spG_of {D : DF} {n : Nat} {σ : L2.St} {g : Gh} {H : Hp} {h : Hv} {Q : VK} {args : List Val} {vs : List V} (hn : args.length = n) (R : HR X.K g H h) (r : VRs X.K g H args vs) (A : After X.K W (vr X.K) σ g H Q (D args h)) : spG X.K D n vs H Q (WE W σ) := by
  refine ⟨by rw [← r.length]; exact hn, g, h, args, R, r, ?_⟩
  cases e : D args h with
  | ok v h1 => rw [e] at A; exact A
  | exc x h1 => rw [e] at A; exact A
  | fail => rw [e] at A; exact A
def arity (n : Nat) (D : DF) : DF := fun args h => if args.length = n then D args h else .fail
theorem ge_call {D : DF} {k : Nat} {f : Addr} {fd : FuncData} {ps : List Str} {x : Str} {p pos : Pos} {e : Expr} {es : List Expr} {da : DenG (List Val)} (F : FnOk X.prog X.w X.K X.mg X.base (L2.CX X.prog X.w) k f fd ps (spG X.K D ps.length)) (hr : Room k X.A) (tk : Takes X W)
    (hm : X.mg x = some (.ref f)) (hk : PySem.W.keepIn X.K (.ref f) = true) (hb : Binds X.K fd ps []) (ha : GA X W (e :: es) da) (hn : ∀ l h vs h', da l h = .ok vs h' → vs.length = ps.length) (hg : Gl X x := by rfl) (hdb : (x == ("__debug__" : Str)) = false := by decide +kernel)
    (he : starEach (e :: es) X.env = (false, eval e X.env) :: starEach es X.env := by rfl) (hpl : (backTo pos (starEach es X.env)).any (·.1) = false := by rfl) : GE X W (.Call (.Name x p) (e :: es) [] pos) (dCall D da) := by
  refine PE.imp (pe_callS F hr hg hm hk hb (fun σ => passAt tk σ) ha hdb he hpl) fun σ H Q ⟨g, l, h, S, R, A⟩ => ?_
  refine ⟨g, l, h, S, R, ?_⟩
  unfold dCall at A
  cases ed : da l h with
  | ok vs h1 =>
    rw [ed] at A
    intro g' H' ws E R' r
    exact spG_of (hn l h vs h1 ed) R' r (After.ext E A)
  | exc x h1 => rw [ed] at A; exact A
  | fail => rw [ed] at A; exact A

/-! ### raise, try -/
def sRaise (c : List Nat) : Stm := fun l h => .exc ⟨c, []⟩ l h
theorem gs_raise (c : List Nat) {x m : Str} {j : Nat} {p p2 pos pos2 : Pos} (hc : X.calm = true) (tk : Takes X W) (q : PySem.W.excIn X.K (clsA X.K c) He.veBase "ValueError.__new__" = true) (gC : X.mg x = some (.ref (clsA X.K c))) (kC : PySem.W.keepIn X.K (.ref (clsA X.K c)) = true)
    (h1 : PySem.W.subIn X.K (.ref (clsA X.K c)) (.type "BaseException") = some true) (h2 : PySem.W.typeIn X.K (.ref (clsA X.K c)) = some (.type "type")) (hg : Gl X x := by rfl) (hdb : (x == ("__debug__" : Str)) = false := by decide +kernel) :
    GS X W (.Raise (some (.Call (.Name x p) [.Constant (.str m) j p2] [] pos)) none pos2) (sRaise c) := by
  refine PS.imp (ps_raise hc tk (pmk_own PySem.F.excBase_ValueError q gC kC (raises_own h1 h2) hg hdb)) fun D σ H ⟨g, l, h, S, R, A⟩ => ?_
  exact A g H σ _ none Ext.refl R S ⟨rfl, rfl⟩
def SRes.noExc (r : SRes) : SRes := match r with
  | .exc _ _ _ => .fail
  | r => r
@[simp] theorem SRes.noExc_nx (l : Loc) (h : Hv) : (SRes.nx l h).noExc = .nx l h := rfl
@[simp] theorem SRes.noExc_rt (v : Val) (h : Hv) : (SRes.rt v h).noExc = .rt v h := rfl
/-- body; where it raises what the class takes, the suite -/
def sTry (tbl : List (List Nat × Bool)) (body suite : Stm) : Stm := fun l h => match body l h with
  | .exc e l1 h1 => (match tbl.lookup e.c with
    | some true => (suite l1 h1).noExc
    | some false => .exc e l1 h1
    | none => .fail)
  | r => r
theorem AfterS.mono {K : PySem.W.Frag} {W W' : WX} {g : Gh} {H : Hp} {D : Ends} {r : SRes} (A : AfterS K W g H D r) (h : ∀ cls d σ H, W cls d σ H → W' cls d σ H) : AfterS K W' g H D r := by
  cases r with
  | exc e l h1 => exact fun g' H' σ' cls d E R S re => h _ _ _ _ (A g' H' σ' cls d E R S re)
  | nx l h1 => exact A
  | bk l h1 => exact A
  | ct l h1 => exact A
  | rt l h1 => exact A
  | fail => exact A
theorem gs_try (tbl : List (List Nat × Bool)) {x : Str} {c : Value} {body suite : List Stmt} {b₀ : Stmt} {np pos pos' : Pos} {db ds : Stm} (hs : X.stack = X.env :: X.outer) (hf : X.env.frame = some X.env.locals) (hc : Names X x c) (tk : Takes X W)
    (ht : ∀ p ∈ tbl, PySem.W.exmOne X.K (.ref (clsA X.K p.1)) c = some p.2)
    (hb : ∀ (W' : WX) (pn : List (Addr × Obj)) (xe : Value → Shared → Prop), Takes (X.tr pn xe) W' → PassesOwn (model X.prog X.w) X.A X.env xe → GSs (X.tr pn xe) W' body db)
    (hsu : ∀ (a : Addr) (pn : List (Addr × Obj)), GSs (X.suite a pn) W0 (b₀ :: suite) ds) :
    GS X W (.Try body [.ExceptHandler (some (.Name x np)) none (b₀ :: suite) pos'] [] [] pos) (sTry tbl db ds) := by
  refine PS.imp (ps_try_only (tb := fun W' => tS X.K W' db) (ts := fun a cls d => tS X.K W0 ds) hs hf hc tk hb (fun a oe cls d pn _ _ => hsu a _)) fun D σ H ⟨g, l, h, S, R, A⟩ => ?_
  refine ⟨g, l, h, S, R, ?_⟩
  unfold sTry at A
  cases e : db l h with
  | nx l1 h1 => rw [e] at A; exact A
  | bk l1 h1 => rw [e] at A; exact A
  | ct l1 h1 => rw [e] at A; exact A
  | rt l1 h1 => rw [e] at A; exact A
  | fail => rw [e] at A; exact A
  | exc x1 l1 h1 =>
    rw [e] at A
    simp only at A
    intro g' H' σ' cls d E R' S' re
    cases el : tbl.lookup x1.c with
    | none => rw [el] at A; exact A.elim
    | some b =>
      rw [el] at A
      have hm : ∃ y, (y, b) ∈ tbl ∧ y = x1.c := by
        have gen : ∀ (tb : List (List Nat × Bool)), tb.lookup x1.c = some b → ∃ y, (y, b) ∈ tb ∧ y = x1.c := by
          intro tb
          induction tb with
          | nil => intro z; cases z
          | cons p tb ih =>
            intro z
            rw [List.lookup_cons] at z
            split at z
            · rename_i q
              cases z
              exact ⟨p.1, List.mem_cons_self .., (by simpa using q : x1.c = p.1).symm⟩
            · obtain ⟨y, h1, h2⟩ := ih z
              exact ⟨y, List.mem_cons_of_mem _ h1, h2⟩
        exact gen tbl el
      obtain ⟨y, hy, rfl⟩ := hm
      have he := ht _ hy
      rw [← re.1] at he
      refine ⟨b, he, fun hb a na => ?_, fun hb => ?_⟩
      · subst hb
        have A2 : AfterS X.K W g' H' D (ds l1 h1).noExc := AfterS.ext E A
        refine ⟨g', l1, h1, S', R', ?_⟩
        cases es : ds l1 h1 with
        | exc x2 l2 h2 => rw [es] at A2; exact False.elim A2
        | nx l2 h2 => rw [es] at A2; exact A2
        | bk l2 h2 => rw [es] at A2; exact A2
        | ct l2 h2 => rw [es] at A2; exact A2
        | rt l2 h2 => rw [es] at A2; exact A2
        | fail => rw [es] at A2; exact A2
      · subst hb
        exact A g' H' σ' cls d E R' S' re
end
end GH

set_option Elab.async false
set_option linter.all false
set_option maxRecDepth 100000
set_option maxHeartbeats 1000000
set_option autoImplicit false
/-! ==, in, isinstance, slices, built-ins over lists, dicts. -/
namespace GH
open PySem PySem.Spec PyProof.Rows L2

/-! ### values as data -/
mutual
def pd : Val → PyData
  | .non => .none
  | .bl b => .bool b
  | .int i => .int i
  | .str s => .str (sOf s)
  | .tup l => .tuple (pds l)
  | .lst l => .list (pds l)
  | .fz l => .list (pds l)
  | .ref _ => .none
def pds : List Val → List PyData
  | [] => []
  | v :: l => pd v :: pds l
end
mutual
/-- no object of the heap in it, texts of proper signs -/
def okV : Val → Bool
  | .str s => s.all fun c => decide (c < 0x110000)
  | .tup l => okVs l
  | .lst l => okVs l
  | .fz l => okVs l
  | .ref _ => false
  | _ => true
def okVs : List Val → Bool
  | [] => true
  | v :: l => okV v && okVs l
end
mutual
def dpV : Val → Nat
  | .tup l => dpVs l + 1
  | .lst l => dpVs l + 1
  | .fz l => dpVs l + 1
  | _ => 0
def dpVs : List Val → Nat
  | [] => 0
  | v :: l => max (dpV v) (dpVs l)
end
mutual
theorem pd_depth : ∀ v : Val, (pd v).depth = dpV v
  | .non => rfl
  | .bl b => rfl
  | .int i => rfl
  | .str s => rfl
  | .tup l => by simp only [pd, PyData.depth, dpV, pds_depth l]
  | .lst l => by simp only [pd, PyData.depth, dpV, pds_depth l]
  | .fz l => by simp only [pd, PyData.depth, dpV, pds_depth l]
  | .ref i => rfl
theorem pds_depth : ∀ l : List Val, PyData.depthAll (pds l) = dpVs l
  | [] => rfl
  | v :: l => by simp only [pds, PyData.depthAll, dpVs, pd_depth v, pds_depth l]
end
mutual
theorem pd_lay : ∀ v : Val, okV v = true → (pd v).canLay0 = true
  | .non, _ => rfl
  | .bl b, _ => rfl
  | .int i, _ => rfl
  | .str s, h => by
    simp only [pd, PyData.canLay0, PyData.strOk, sOf]
    simpa [okV] using h
  | .tup l, h => by simp only [pd, PyData.canLay0]; exact pds_lay l h
  | .lst l, h => by simp only [pd, PyData.canLay0]; exact pds_lay l h
  | .fz l, h => by simp only [pd, PyData.canLay0]; exact pds_lay l h
  | .ref i, h => by cases h
theorem pds_lay : ∀ l : List Val, okVs l = true → PyData.canLayAll0 (pds l) = true
  | [], _ => rfl
  | v :: l, h => by
    have h : okV v = true ∧ okVs l = true := by simpa [okVs] using h
    simp only [pds, PyData.canLayAll0, pd_lay v h.1, pds_lay l h.2, Bool.and_self]
end
section
variable {K : PySem.W.Frag} {g : Gh} {H : Hp}
mutual
theorem VR.dp : ∀ {v : Val} {x : V}, okV v = true → VR K g H v x → Dp K H x (pd v)
  | .non, x, _, q => by simp only [VR] at q; subst q; exact .non
  | .bl b, x, _, q => by simp only [VR] at q; subst q; exact .bl b
  | .int i, x, _, q => by simp only [VR] at q; subst q; exact .int i
  | .str s, x, _, q => by simp only [VR] at q; subst q; exact .str _
  | .tup l, x, o, q => by
    simp only [VR] at q
    obtain ⟨a, xs, rfl, s, r⟩ := q
    exact .tup s (VRs.dp o r)
  | .lst l, x, o, q => by
    simp only [VR] at q
    obtain ⟨a, xs, rfl, _, s, r⟩ := q
    exact .lst (SqL.of s) (VRs.dp o r)
  | .fz l, x, o, q => by
    simp only [VR] at q
    obtain ⟨a, xs, rfl, s, r⟩ := q
    exact .lst s.sq (VRs.dp o r)
  | .ref i, x, o, q => by cases o
theorem VRs.dp : ∀ {l : List Val} {xs : List V}, okVs l = true → VRs K g H l xs → DpAll K H xs (pds l)
  | [], xs, _, q => by simp only [VRs] at q; subst q; exact .nil
  | v :: l, xs, o, q => by
    simp only [VRs] at q
    obtain ⟨x, r, rfl, q1, q2⟩ := q
    have o : okV v = true ∧ okVs l = true := by simpa [okVs] using o
    exact .cons (VR.dp o.1 q1) (VRs.dp o.2 q2)
end
end
def veq (a b : Val) : Bool := PyData.eqv (pd a) (pd b)
/-- a list of ours, read -/
def thaw (h : Hv) (v : Val) : Val := match v with
  | .ref i => match h[i]? with
    | some (.lst l) => .lst l
    | _ => v
  | v => v
theorem thaw_dp {K : PySem.W.Frag} {g : Gh} {H : Hp} {h : Hv} {v : Val} {x : V} (R : HR K g H h) (r : VR K g H v x) (o : okV (thaw h v) = true) : Dp K H x (pd (thaw h v)) := by
  cases v with
  | ref i =>
    simp only [thaw] at o ⊢
    split at o
    · rename_i l hl
      simp only [VR] at r
      obtain ⟨a, rfl, hm⟩ := r
      obtain ⟨xs, e1, e2⟩ := ref_at R hl hm
      exact .lst (SqL.of e1) (VRs.dp o e2)
    · cases o
  | _ => exact VR.dp o r
def eqOk (a b : Val) : Bool := okV a && okV b && decide (min (dpV a) (dpV b) ≤ 190)
def vEq (v u : Val) (h : Hv) : Res Val := match v, u with
  | .int i, .int j => .ok (.bl (decide (i = j))) h
  | .str a, .str b => .ok (.bl (decide (a = b))) h
  | v, u => if eqOk (thaw h v) (thaw h u) then .ok (.bl (veq (thaw h v) (thaw h u))) h else .fail
def vNe (v u : Val) (h : Hv) : Res Val := match v, u with
  | .int i, .int j => .ok (.bl (!decide (i = j))) h
  | .str a, .str b => .ok (.bl (!decide (a = b))) h
  | v, u => if eqOk (thaw h v) (thaw h u) then .ok (.bl (!veq (thaw h v) (thaw h u))) h else .fail
section
variable {X : Cx}
def rEqG (K : PySem.W.Frag) (neg : Bool) : R2 := fun x y H Q => ∃ d e, Dp K H x d ∧ Dp K H y e ∧ d.canLay0 = true ∧ e.canLay0 = true ∧ min d.depth e.depth ≤ 190 ∧ Q (.bl (if neg then !PyData.eqv d e else PyData.eqv d e)) H
theorem op_eqG (hu : X.A.units + 200 < cLine) : OpR X (compareOp .Eq) (rEqG X.K false) := by
  intro pins s σ H x y v u Q I rx ry h
  obtain ⟨d, e, hd, he, sd, se, hm, q⟩ := h
  obtain ⟨as, r1⟩ := Dp.reads I d x v hd rx
  obtain ⟨bs, r2⟩ := Dp.reads I e y u he ry
  exact SeqAt.compareEq_reads r1 r2 sd se (by omega) ⟨.bl _, H, I, rfl, q⟩
theorem op_neG (hu : X.A.units + 200 < cLine) : OpR X (compareOp .NotEq) (rEqG X.K true) := by
  intro pins s σ H x y v u Q I rx ry h
  obtain ⟨d, e, hd, he, sd, se, hm, q⟩ := h
  obtain ⟨as, r1⟩ := Dp.reads I d x v hd rx
  obtain ⟨bs, r2⟩ := Dp.reads I e y u he ry
  exact SeqAt.compareNe_reads r1 r2 sd se (by omega) ⟨.bl _, H, I, rfl, q⟩
theorem eqG_ok {W : WX} {g : Gh} {H : Hp} {h : Hv} {σ : L2.St} {v u : Val} {x y : V} {Q : VK} {neg : Bool} (R : HR X.K g H h) (rv : VR X.K g H v x) (ru : VR X.K g H u y)
    (A : After X.K W (vr X.K) σ g H Q (if eqOk (thaw h v) (thaw h u) then .ok (.bl (if neg then !veq (thaw h v) (thaw h u) else veq (thaw h v) (thaw h u))) h else .fail)) : rEqG X.K neg x y H Q := by
  split at A
  · rename_i o
    simp only [eqOk, Bool.and_eq_true, decide_eq_true_eq] at o
    exact ⟨_, _, thaw_dp R rv o.1.1, thaw_dp R ru o.1.2, pd_lay _ o.1.1, pd_lay _ o.1.2, by rw [pd_depth, pd_depth]; exact o.2, A g H _ Ext.refl R (by simp only [VR]; rfl)⟩
  · exact A.elim
theorem og_eq (hu : X.A.units + 200 < cLine) : OpG X (compareOp .Eq) vEq := by
  refine ⟨_, op_eq.or (op_eqG hu), fun W g H h σ v u x y Q R rv ru A => ?_⟩
  unfold vEq at A
  split at A
  · simp only [VR] at rv ru
    subst rv ru
    refine .inl ⟨rfl, ?_⟩
    rename_i i j
    have e : decide (V.int i = V.int j) = decide (i = j) := by by_cases q : i = j <;> simp [q]
    rw [e]
    exact A g H _ Ext.refl R (by simp only [VR])
  · simp only [VR] at rv ru
    subst rv ru
    refine .inl ⟨rfl, ?_⟩
    rename_i i j
    have e : decide (V.str (sOf i) = V.str (sOf j)) = decide (i = j) := by
      by_cases q : i = j
      · simp [q]
      · have : ¬ V.str (sOf i) = V.str (sOf j) := fun z => q (sOf_inj (V.str.inj z))
        simp [q, this]
    rw [e]
    exact A g H _ Ext.refl R (by simp only [VR])
  · exact .inr (eqG_ok (neg := false) R rv ru A)
theorem og_ne (hu : X.A.units + 200 < cLine) : OpG X (compareOp .NotEq) vNe := by
  refine ⟨_, op_ne.or (op_neG hu), fun W g H h σ v u x y Q R rv ru A => ?_⟩
  unfold vNe at A
  split at A
  · simp only [VR] at rv ru
    subst rv ru
    refine .inl ⟨rfl, ?_⟩
    rename_i i j
    have e : decide (V.int i = V.int j) = decide (i = j) := by by_cases q : i = j <;> simp [q]
    rw [e]
    exact A g H _ Ext.refl R (by simp only [VR])
  · simp only [VR] at rv ru
    subst rv ru
    refine .inl ⟨rfl, ?_⟩
    rename_i i j
    have e : decide (V.str (sOf i) = V.str (sOf j)) = decide (i = j) := by
      by_cases q : i = j
      · simp [q]
      · have : ¬ V.str (sOf i) = V.str (sOf j) := fun z => q (sOf_inj (V.str.inj z))
        simp [q, this]
    rw [e]
    exact A g H _ Ext.refl R (by simp only [VR])
  · exact .inr (eqG_ok (neg := true) R rv ru A)

/-! ### in -/
def inSeq (x : Val) (l : List Val) : Bool := l.any fun z => veq z x
def inOk (x : Val) (l : List Val) : Bool := okV x && okVs l && decide (min (dpVs l) (dpV x) ≤ 190)
/-- x in c -/
def isIn (x c : Val) (h : Hv) : Res Bool := match c with
  | .str s => match x with
    | .str [a] => .ok (s.contains a) h
    | _ => .fail
  | c => match seqOf h c with
    | some l => if inOk (thaw h x) l then .ok (inSeq (thaw h x) l) h else .fail
    | none => match dicOf h c, keyOf x with
      | some l, some _ => .ok (dGet l x).isSome h
      | _, _ => .fail
def vIn (x c : Val) (h : Hv) : Res Val := (isIn x c h).bind fun b h1 => .ok (.bl b) h1
def vNotIn (x c : Val) (h : Hv) : Res Val := (isIn x c h).bind fun b h1 => .ok (.bl (!b)) h1
def rInG (K : PySem.W.Frag) (neg : Bool) : R2 := fun x y H Q => ∃ d ds, Dp K H x d ∧ (Dp K H y (.list ds) ∨ Dp K H y (.tuple ds)) ∧ d.canLay0 = true ∧ PyData.canLayAll0 ds = true ∧ min (PyData.depthAll ds) d.depth ≤ 190 ∧
  Q (.bl (if neg then !(ds.any fun z => PyData.eqv z d) else ds.any fun z => PyData.eqv z d)) H
theorem op_inG (hu : X.A.units + 200 < cLine) : OpR X (compareOp .In) (rInG X.K false) := by
  intro pins s σ H x y v u Q I rx ry h
  obtain ⟨d, ds, hd, he | he, sd, se, hm, q⟩ := h
  · obtain ⟨as, r1⟩ := Dp.reads I d x v hd rx
    obtain ⟨bs, r2⟩ := Dp.reads I (.list ds) y u he ry
    exact SeqAt.in_list_reads r2 r1 se sd (by omega) ⟨.bl _, H, I, rfl, q⟩
  · obtain ⟨as, r1⟩ := Dp.reads I d x v hd rx
    obtain ⟨bs, r2⟩ := Dp.reads I (.tuple ds) y u he ry
    exact SeqAt.in_tuple_reads r2 r1 se sd (by omega) ⟨.bl _, H, I, rfl, q⟩
theorem op_notInG (hu : X.A.units + 200 < cLine) : OpR X (compareOp .NotIn) (rInG X.K true) := by
  intro pins s σ H x y v u Q I rx ry h
  obtain ⟨d, ds, hd, he | he, sd, se, hm, q⟩ := h
  · obtain ⟨as, r1⟩ := Dp.reads I d x v hd rx
    obtain ⟨bs, r2⟩ := Dp.reads I (.list ds) y u he ry
    exact SeqAt.notIn_list_reads r2 r1 se sd (by omega) ⟨.bl _, H, I, rfl, q⟩
  · obtain ⟨as, r1⟩ := Dp.reads I d x v hd rx
    obtain ⟨bs, r2⟩ := Dp.reads I (.tuple ds) y u he ry
    exact SeqAt.notIn_tuple_reads r2 r1 se sd (by omega) ⟨.bl _, H, I, rfl, q⟩
def rInS (neg : Bool) : R2 := fun x y H Q => ∃ (c : Nat) (z : Str), x = .str ⟨#[c]⟩ ∧ y = .str z ∧ Q (.bl (if neg then !decide (c ∈ z.cps.toList) else decide (c ∈ z.cps.toList))) H
def rInDc (neg : Bool) : R2 := fun x y H Q => ∃ a o, y = .ref a ∧ DGet H a x o ∧ Q (.bl (if neg then !o.isSome else o.isSome)) H
theorem op_inD' (hu : X.A.units + 200 < cLine) : OpR X (compareOp .In) (rInDc false) := by
  intro pins s σ H x y v u Q I rx ry h
  obtain ⟨a, o, rfl, g, q⟩ := h
  obtain rfl : u = Value.ref a := ry
  exact d_in (by omega) I g rx fun s' I' => ⟨.bl _, H, I', rfl, q⟩
theorem op_notInD' (hu : X.A.units + 200 < cLine) : OpR X (compareOp .NotIn) (rInDc true) := by
  intro pins s σ H x y v u Q I rx ry h
  obtain ⟨a, o, rfl, g, q⟩ := h
  obtain rfl : u = Value.ref a := ry
  exact d_notIn (by omega) I g rx fun s' I' => ⟨.bl _, H, I', rfl, q⟩
theorem any_pds (x : Val) : ∀ l : List Val, ((pds l).any fun z => PyData.eqv z (pd x)) = inSeq x l
  | [] => rfl
  | v :: l => by simp only [pds, List.any_cons, inSeq, veq, any_pds x l]
theorem seqOf_dp {K : PySem.W.Frag} {g : Gh} {H : Hp} {h : Hv} {v : Val} {x : V} {l : List Val} (R : HR K g H h) (r : VR K g H v x) (e : seqOf h v = some l) (o : okVs l = true) : Dp K H x (.list (pds l)) ∨ Dp K H x (.tuple (pds l)) := by
  obtain ⟨a, xs, rfl, s, rs⟩ := seqOf_ok R r e
  rcases s with s | s
  · exact .inl (.lst s (VRs.dp o rs))
  · exact .inr (.tup s (VRs.dp o rs))
theorem isIn_ok {W : WX} {g : Gh} {H : Hp} {h : Hv} {σ : L2.St} {v u : Val} {x y : V} {Q : VK} (neg : Bool) (R : HR X.K g H h) (rv : VR X.K g H v x) (ru : VR X.K g H u y)
    (A : After X.K W (vr X.K) σ g H Q ((isIn v u h).bind fun b h1 => .ok (.bl (if neg then !b else b)) h1)) : rInS neg x y H Q ∨ rInG X.K neg x y H Q ∨ rInDc neg x y H Q := by
  unfold isIn at A
  split at A
  · rename_i s
    split at A
    · rename_i a
      simp only [VR] at rv ru
      subst rv ru
      refine .inl ⟨a, _, rfl, rfl, ?_⟩
      have e : decide (a ∈ (sOf s).cps.toList) = s.contains a := by rw [Bool.eq_iff_iff]; exact ⟨fun z => by simpa [sOf] using of_decide_eq_true z, fun z => decide_eq_true (by simpa [sOf] using z)⟩
      rw [e]
      exact A g H _ Ext.refl R (by simp only [VR])
    · exact A.elim
  · split at A
    · rename_i l hl
      split at A
      · rename_i o
        simp only [inOk, Bool.and_eq_true, decide_eq_true_eq] at o
        refine .inr (.inl ⟨pd (thaw h v), pds l, thaw_dp R rv o.1.1, seqOf_dp R ru hl o.1.2, pd_lay _ o.1.1, pds_lay _ o.1.2, by rw [pds_depth, pd_depth]; exact o.2, ?_⟩)
        rw [any_pds]
        exact A g H _ Ext.refl R (by simp only [VR])
      · exact A.elim
    · split at A
      · rename_i l k hl hk
        obtain ⟨i, a, ks, rfl, rfl, hm, hi, ha, d⟩ := dicOf_ok R ru hl
        obtain ⟨d1, d2⟩ := DR.get hk d
        have A : After X.K W (vr X.K) σ g H Q (.ok (.bl (if neg then !(dGet l v).isSome else (dGet l v).isSome)) h) := A
        rw [key_V rv hk]
        have hs : (valV ks k).isSome = (dGet l v).isSome := by
          cases e : dGet l v with
          | none => rw [d2 e]; rfl
          | some w => obtain ⟨z, e1, _⟩ := d1 w e; rw [e1]; rfl
        refine .inr (.inr ⟨a, _, rfl, DGet.k ha, ?_⟩)
        rw [hs]
        exact A g H _ Ext.refl R (by simp only [VR])
      · exact A.elim
theorem og_in (hu : X.A.units + 200 < cLine) : OpG X (compareOp .In) vIn :=
  ⟨_, (show OpR X (compareOp .In) (rInS false) from op_in_sign).or ((op_inG hu).or (op_inD' hu)), fun W g H h σ v u x y Q R rv ru A => isIn_ok false R rv ru A⟩
theorem og_notIn (hu : X.A.units + 200 < cLine) : OpG X (compareOp .NotIn) vNotIn :=
  ⟨_, (show OpR X (compareOp .NotIn) (rInS true) from op_notIn_sign).or ((op_notInG hu).or (op_notInD' hu)), fun W g H h σ v u x y Q R rv ru A => isIn_ok true R rv ru A⟩
end

/-! ### isinstance -/
inductive Ty where
  | non | bool | int | str | tuple | list | dict
  deriving DecidableEq
def Ty.name : Ty → String
  | .non => "NoneType" | .bool => "bool" | .int => "int" | .str => "str" | .tuple => "tuple" | .list => "list" | .dict => "dict"
def tyOf (h : Hv) : Val → Option Ty
  | .non => some .non
  | .bl _ => some .bool
  | .int _ => some .int
  | .str _ => some .str
  | .tup _ => some .tuple
  | .lst _ => some .list
  | .fz _ => some .list
  | .ref i => match h[i]? with
    | some (.lst _) => some .list
    | some (.dic _) => some .dict
    | _ => none
def isiB (a b : Ty) : Bool := decide (a = b) || (decide (a = .bool) && decide (b = .int))
theorem kitB_ok : ∀ a b : Ty, b ≠ .non → kitB a.name b.name = some (isiB a b) := by
  intro a b hb
  cases a <;> cases b <;> first | exact absurd rfl hb | decide +kernel
theorem tyOf_ok {K : PySem.W.Frag} {g : Gh} {H : Hp} {h : Hv} {v : Val} {x : V} {t : Ty} (R : HR K g H h) (r : VR K g H v x) (e : tyOf h v = some t) : TyX K H x (.type t.name) := by
  cases v with
  | non => simp only [tyOf, Option.some.injEq] at e; subst e; simp only [VR] at r; subst r; exact .base .non
  | bl b => simp only [tyOf, Option.some.injEq] at e; subst e; simp only [VR] at r; subst r; exact .base (.bl b)
  | int b => simp only [tyOf, Option.some.injEq] at e; subst e; simp only [VR] at r; subst r; exact .base (.int b)
  | str b => simp only [tyOf, Option.some.injEq] at e; subst e; simp only [VR] at r; subst r; exact .base (.str _)
  | tup l =>
    simp only [tyOf, Option.some.injEq] at e
    subst e
    simp only [VR] at r
    obtain ⟨a, xs, rfl, s, _⟩ := r
    rcases s with (s | ⟨o, s⟩) | ⟨o, its, n, hk, hc, _⟩
    · exact .base (.tup s)
    · exact .fTuple s
    · exact .kTuple hk hc
  | lst l =>
    simp only [tyOf, Option.some.injEq] at e
    subst e
    simp only [VR] at r
    obtain ⟨a, xs, rfl, _, s, _⟩ := r
    exact .base (.lst s)
  | fz l =>
    simp only [tyOf, Option.some.injEq] at e
    subst e
    simp only [VR] at r
    obtain ⟨a, xs, rfl, s, _⟩ := r
    rcases s with ⟨o, s⟩ | ⟨o, its, n, hk, hc, _⟩
    · exact .base (.frz s)
    · exact .kList hk hc
  | ref i =>
    simp only [VR] at r
    obtain ⟨a, rfl, hm⟩ := r
    simp only [tyOf] at e
    split at e
    · rename_i l hl
      cases e
      obtain ⟨xs, e1, _⟩ := ref_at R hl hm
      exact .base (.lst e1)
    · rename_i l hl
      cases e
      obtain ⟨xs, e1, _⟩ := ref_at R hl hm
      exact .base (.dK e1)
    · cases e
def dIsi (t : Ty) (d : Den) : Den := fun l h => (d l h).bind fun v h1 => match tyOf h1 v with
  | some a => .ok (.bl (isiB a t)) h1
  | none => .fail
section
variable {X : Cx} {W : WX}
/-- isinstance(e, T), T a built-in type by its name -/
theorem ge_isi (t : Ty) {e : Expr} {d : Den} {x y : Str} {p q pos : Pos} (he : GE X W e d) (hm : X.mg x = none) (hmt : X.mg y = none) (ht : t ≠ .non := by decide) (hg : Gl X x := by rfl) (hgt : Gl X y := by rfl) (hv : bootBuiltins x = some (.builtin "isinstance") := by decide +kernel) (hvt : bootBuiltins y = some (.type t.name) := by decide +kernel)
    (hn : x ≠ "__name__" := by decide +kernel) (hdb : (x == ("__debug__" : Str)) = false := by decide +kernel) (hnt : y ≠ "__name__" := by decide +kernel) (hdbt : (y == ("__debug__" : Str)) = false := by decide +kernel)
    (hs : starEach [e, .Name y q] X.env = (false, eval e X.env) :: starEach [.Name y q] X.env := by rfl) (hs2 : starEach [.Name y q] X.env = (false, eval (.Name y q) X.env) :: starEach [] X.env := by rfl) (hpl : (backTo pos (starEach [.Name y q] X.env)).any (·.1) = false := by rfl) :
    GE X W (.Call (.Name x p) [e, .Name y q] [] pos) (dIsi t d) := by
  have hy : PE X (.Name y q) (tC (.ty t.name)) := pe_bltn hgt hmt hvt rfl hnt hdbt
  refine PE.imp (pe_callB call_isi hg hm hv (pa_cons he (pa_cons hy pa_nil hs2) hs) hn hdb hs hpl) fun σ H Q ⟨g, l, h, S, R, A⟩ => ?_
  refine tG_of S R A fun v h1 g1 H1 x E S1 R1 r1 A1 => ?_
  show rIsi X.K [x, .ty t.name] H1 Q
  cases et : tyOf h1 v with
  | none => rw [et] at A1; exact A1.elim
  | some a =>
    rw [et] at A1
    exact ⟨x, _, _, _, isiB a t, rfl, .ty _, tyOf_ok R1 r1 et, kit_ty (kitB_ok a t ht), A1 g1 H1 _ Ext.refl R1 (by simp only [VR])⟩

/-! ### slices -/
def cut {α : Type} (l : List α) (lo hi : Option Int) : List α := (l.drop (HT.sIx l.length 0 lo)).take (HT.sIx l.length l.length hi - HT.sIx l.length 0 lo)
abbrev DO := Loc → Hv → Res (Option Int)
def oNone : DO := fun _ h => .ok none h
def oSome (d : Den) : DO := fun l h => (d l h).bind fun v h1 => match v with
  | .int i => .ok (some i) h1
  | _ => .fail
abbrev orl : Gh → Hp → Option Int → Option Int → Prop := fun _ _ a b => a = b
def GO (X : Cx) (W : WX) (e : Option Expr) (d : DO) : Prop := PO X e (tG X.K W orl d)
theorem PO.imp {e : Option Expr} {t t' : TO} (p : PO X e t) (h : ∀ σ H Q, t' σ H Q → t σ H Q) : PO X e t' := ⟨fun pins s σ H Q I q => p.run pins s σ H Q I (h σ H Q q)⟩
theorem go_none : GO X W none oNone := PO.imp po_none fun σ H Q ⟨g, l, h, S, R, A⟩ => A g H none Ext.refl R rfl
theorem go_some {e : Expr} {d : Den} (he : GE X W e d) : GO X W (some e) (oSome d) := by
  refine PO.imp (po_some he) fun σ H Q ⟨g, l, h, S, R, A⟩ => ?_
  refine tG_of S R A fun v h1 g1 H1 x E S1 R1 r1 A1 => ?_
  cases v with
  | int i =>
    simp only [VR] at r1
    exact ⟨i, r1, A1 g1 H1 _ Ext.refl R1 rfl⟩
  | _ => exact A1.elim
def vCut (v : Val) (lo hi : Option Int) (h : Hv) : Res Val := match v with
  | .tup l => .ok (.tup (cut l lo hi)) h
  | .str s => if s.length ≤ lineN then .ok (.str (cut s lo hi)) h else .fail
  | v => match lstOf h v with
    | some l => .ok (.lst (cut l lo hi)) h
    | none => .fail
def dCut (d : Den) (lo hi : DO) : Den := fun l h => (d l h).bind fun v h1 => (lo l h1).bind fun a h2 => (hi l h2).bind fun b h3 => vCut v a b h3
theorem VRs.cut' {K : PySem.W.Frag} {g : Gh} {H : Hp} {l : List Val} {xs : List V} (r : VRs K g H l xs) (lo hi : Option Int) : VRs K g H (GH.cut l lo hi) (cutV xs lo hi) := by
  unfold GH.cut cutV
  rw [← r.length]
  exact (r.drop _).take _
theorem cut_all {α : Type} (l : List α) {lo hi : Option Int} (h : HT.sIx l.length 0 lo = 0 ∧ HT.sIx l.length l.length hi = l.length) : cut l lo hi = l := by
  unfold cut
  rw [h.1, h.2]
  simp
end
end GH

set_option Elab.async false
set_option linter.all false
set_option maxRecDepth 100000
set_option maxHeartbeats 1000000
set_option autoImplicit false
/-! Slices, built-in functions of one argument, methods of lists and dicts, stores. -/
namespace GH
open PySem PySem.Spec PyProof.Rows L2

section
variable {X : Cx} {W : WX}
theorem cutS_eq (s : List Nat) (lo hi : Option Int) : cutS (sOf s) lo hi = sOf (cut s lo hi) := by
  unfold cutS cut sOf
  simp [Str.length]
theorem ge_cut {e : Expr} {d : Den} {lo hi : Option Expr} {dl dh : DO} {pos p2 : Pos} (he : GE X W e d) (hl : GO X W lo dl) (hh : GO X W hi dh) : GE X W (.Subscript e (.Slice lo hi none p2) pos) (dCut d dl dh) := by
  refine PE.imp (pe_slice (sl_list.or (sl_tupA.or sl_str)) he hl hh) fun σ H Q ⟨g, l, h, S, R, A⟩ => ?_
  refine tG_of S R A fun v h1 g1 H1 x E S1 R1 r1 A1 => ?_
  refine tG_of S1 R1 A1 fun a h2 g2 H2 a' E2 S2 R2 e2 A2 => ?_
  refine tG_of S2 R2 A2 fun b h3 g3 H3 b' E3 S3 R3 e3 A3 => ?_
  obtain rfl : a = a' := e2
  obtain rfl : b = b' := e3
  have r := (r1.ext R1 E2).ext R2 E3
  unfold vCut at A3
  split at A3
  · rename_i k
    simp only [VR] at r
    obtain ⟨p, xs, rfl, s, rs⟩ := r
    refine .inr (.inl ⟨p, xs, rfl, s, fun hw => ?_, fun _ q nq => ?_⟩)
    · refine A3 g3 H3 _ Ext.refl R3 ?_
      rw [cut_all k (by rw [rs.length]; exact hw)]
      simp only [VR]
      exact ⟨p, xs, rfl, s, rs⟩
    · obtain ⟨E4, R4⟩ := R3.grow (o := .tup (cutV xs a b)) nq
      refine A3 g3 _ (.ref q) E4 R4 ?_
      simp only [VR]
      exact ⟨q, _, rfl, SqT.of upd_same, (rs.cut' a b).ext R3 E4⟩
  · rename_i k
    split at A3
    · rename_i hl
      simp only [VR] at r
      subst r
      refine .inr (.inr ⟨_, rfl, by rw [sOf_len]; exact line_ok hl, ?_⟩)
      rw [cutS_eq]
      exact A3 g3 H3 _ Ext.refl R3 (by simp only [VR])
    · exact A3.elim
  · split at A3
    · rename_i k hk
      obtain ⟨p, xs, rfl, s, rs⟩ := lstOf_ok R3 r hk
      refine .inl ⟨p, xs, rfl, SqL.of s, fun q nq => ?_⟩
      obtain ⟨E4, R4⟩ := R3.grow (o := .lst (cutV xs a b)) nq
      refine A3 g3 _ (.ref q) E4 R4 ?_
      simp only [VR]
      exact ⟨q, _, rfl, R3.fresh nq, upd_same, (rs.cut' a b).ext R3 E4⟩
    · exact A3.elim
/-- a list reversed: xs[::-1] -/
def vRev (v : Val) (h : Hv) : Res Val := match lstOf h v with
  | some l => .ok (.lst l.reverse) h
  | none => .fail
def dFn (f : Val → Hv → Res Val) (d : Den) : Den := fun l h => (d l h).bind f
theorem ge_rev {e : Expr} {d : Den} {k : Nat} {p1 p2 p3 pos : Pos} (he : GE X W e d) : GE X W (.Subscript e (.Slice none none (some (.UnaryOp .USub (.Constant (.int 1) k p1) p2)) p3) pos) (dFn vRev d) := by
  refine PE.imp (pe_revL he) fun σ H Q ⟨g, l, h, S, R, A⟩ => ?_
  refine tG_of S R A fun v h1 g1 H1 x E S1 R1 r1 A1 => ?_
  unfold vRev at A1
  split at A1
  · rename_i k hk
    obtain ⟨p, xs, rfl, s, rs⟩ := lstOf_ok R1 r1 hk
    refine ⟨p, xs, rfl, SqL.of s, fun q nq => ?_⟩
    obtain ⟨E4, R4⟩ := R1.grow (o := .lst xs.reverse) nq
    refine A1 g1 _ (.ref q) E4 R4 ?_
    simp only [VR]
    exact ⟨q, _, rfl, R1.fresh nq, upd_same, rs.reverse.ext R1 E4⟩
  · exact A1.elim

/-! ### f(e) -/
def C1 (X : Cx) (f : Value) (d : Val → Hv → Res Val) : Prop := ∃ r, CallR X f r ∧ ∀ (W : WX) (g : Gh) (H : Hp) (h : Hv) (σ : L2.St) (v : Val) (x : V) (Q : VK), HR X.K g H h → VR X.K g H v x → After X.K W (vr X.K) σ g H Q (d v h) → r [x] H Q
theorem ge_b1 {id : String} {f : Val → Hv → Res Val} {e : Expr} {d : Den} {x : Str} {p pos : Pos} (hf : C1 X (.builtin id) f) (he : GE X W e d) (hm : X.mg x = none) (hg : Gl X x := by rfl) (hv : bootBuiltins x = some (.builtin id) := by decide +kernel) (hn : x ≠ "__name__" := by decide +kernel) (hdb : (x == ("__debug__" : Str)) = false := by decide +kernel)
    (hst : starEach [e] X.env = (false, eval e X.env) :: starEach [] X.env := by rfl) (hpl : (backTo pos (starEach [] X.env)).any (·.1) = false := by rfl) : GE X W (.Call (.Name x p) [e] [] pos) (dFn f d) := by
  obtain ⟨r, hc, hr⟩ := hf
  refine PE.imp (pe_callB hc hg hm hv (pa_cons he pa_nil hst) hn hdb hst hpl) fun σ H Q ⟨g, l, h, S, R, A⟩ => ?_
  exact tG_of S R A fun v h1 g1 H1 x E S1 R1 r1 A1 => hr W g1 H1 h1 σ v x Q R1 r1 A1
theorem ge_t1 {T : String} {f : Val → Hv → Res Val} {e : Expr} {d : Den} {x : Str} {p pos : Pos} (hf : C1 X (.type T) f) (he : GE X W e d) (hm : X.mg x = none) (hg : Gl X x := by rfl) (hv : bootBuiltins x = some (.type T) := by decide +kernel) (hn : x ≠ "__name__" := by decide +kernel) (hdb : (x == ("__debug__" : Str)) = false := by decide +kernel)
    (hst : starEach [e] X.env = (false, eval e X.env) :: starEach [] X.env := by rfl) (hpl : (backTo pos (starEach [] X.env)).any (·.1) = false := by rfl) : GE X W (.Call (.Name x p) [e] [] pos) (dFn f d) := by
  obtain ⟨r, hc, hr⟩ := hf
  refine PE.imp (pe_callTy hc hg hm hv (pa_cons he pa_nil hst) hn hdb hst hpl) fun σ H Q ⟨g, l, h, S, R, A⟩ => ?_
  exact tG_of S R A fun v h1 g1 H1 x E S1 R1 r1 A1 => hr W g1 H1 h1 σ v x Q R1 r1 A1
def vAbs (v : Val) (h : Hv) : Res Val := match v with
  | .int i => .ok (.int (if i < 0 then -i else i)) h
  | _ => .fail
theorem c1_abs : C1 X (.builtin "abs") vAbs := ⟨_, call_abs, fun W g H h σ v x Q R r A => by
  unfold vAbs at A
  split at A
  · simp only [VR] at r
    subst r
    exact ⟨_, rfl, A g H _ Ext.refl R (by simp only [VR])⟩
  · exact A.elim⟩
def vInt (v : Val) (h : Hv) : Res Val := match v with
  | .int i => .ok (.int i) h
  | .bl b => .ok (.int (if b then 1 else 0)) h
  | _ => .fail
theorem c1_int : C1 X (.type "int") vInt := ⟨_, call_int1, fun W g H h σ v x Q R r A => by
  unfold vInt at A
  split at A
  · simp only [VR] at r
    subst r
    exact .inl ⟨_, rfl, A g H _ Ext.refl R (by simp only [VR])⟩
  · simp only [VR] at r
    subst r
    exact .inr ⟨_, rfl, A g H _ Ext.refl R (by simp only [VR])⟩
  · exact A.elim⟩
def intsOf : List Val → Option (List Int)
  | [] => some []
  | .int i :: l => (intsOf l).map (i :: ·)
  | _ :: _ => none
def blsOf : List Val → Option (List Bool)
  | [] => some []
  | .bl i :: l => (blsOf l).map (i :: ·)
  | _ :: _ => none
theorem intsOf_ok {K : PySem.W.Frag} {g : Gh} {H : Hp} : ∀ {l : List Val} {ns : List Int} {xs : List V}, intsOf l = some ns → VRs K g H l xs → xs = ns.map V.int
  | [], ns, xs, e, r => by simp only [intsOf, Option.some.injEq] at e; subst e; simp only [VRs] at r; exact r
  | .int i :: l, ns, xs, e, r => by
    simp only [intsOf, Option.map_eq_some_iff] at e
    obtain ⟨ms, e, rfl⟩ := e
    simp only [VRs, VR] at r
    obtain ⟨x, xs', rfl, rfl, r⟩ := r
    rw [intsOf_ok e r]; rfl
theorem blsOf_ok {K : PySem.W.Frag} {g : Gh} {H : Hp} : ∀ {l : List Val} {ns : List Bool} {xs : List V}, blsOf l = some ns → VRs K g H l xs → xs = ns.map V.bl
  | [], ns, xs, e, r => by simp only [blsOf, Option.some.injEq] at e; subst e; simp only [VRs] at r; exact r
  | .bl i :: l, ns, xs, e, r => by
    simp only [blsOf, Option.map_eq_some_iff] at e
    obtain ⟨ms, e, rfl⟩ := e
    simp only [VRs, VR] at r
    obtain ⟨x, xs', rfl, rfl, r⟩ := r
    rw [blsOf_ok e r]; rfl
def vSum (v : Val) (h : Hv) : Res Val := match lstOf h v with
  | some l => match intsOf l with
    | some ns => .ok (.int ns.sum) h
    | none => .fail
  | none => .fail
theorem c1_sum (hc : X.calm = true) : C1 X (.builtin "sum") vSum := ⟨_, cr_sum hc, fun W g H h σ v x Q R r A => by
  unfold vSum at A
  split at A
  · rename_i l hl
    split at A
    · rename_i ns hn
      obtain ⟨a, xs, rfl, s, rs⟩ := lstOf_ok R r hl
      have e := intsOf_ok hn rs
      subst e
      exact ⟨a, ns, rfl, SqL.of s, A g H _ Ext.refl R (by simp only [VR])⟩
    · exact A.elim
  · exact A.elim⟩
def vAll (v : Val) (h : Hv) : Res Val := match lstOf h v with
  | some l => match blsOf l with
    | some ns => .ok (.bl (ns.all id)) h
    | none => .fail
  | none => .fail
def vAny (v : Val) (h : Hv) : Res Val := match lstOf h v with
  | some l => match blsOf l with
    | some ns => .ok (.bl (ns.any id)) h
    | none => .fail
  | none => .fail
theorem c1_all (hc : X.calm = true) : C1 X (.builtin "all") vAll := ⟨_, cr_all hc, fun W g H h σ v x Q R r A => by
  unfold vAll at A
  split at A
  · rename_i l hl
    split at A
    · rename_i ns hn
      obtain ⟨a, xs, rfl, s, rs⟩ := lstOf_ok R r hl
      have e := blsOf_ok hn rs
      subst e
      exact ⟨a, ns, rfl, SqL.of s, A g H _ Ext.refl R (by simp only [VR])⟩
    · exact A.elim
  · exact A.elim⟩
theorem c1_any (hc : X.calm = true) : C1 X (.builtin "any") vAny := ⟨_, cr_any hc, fun W g H h σ v x Q R r A => by
  unfold vAny at A
  split at A
  · rename_i l hl
    split at A
    · rename_i ns hn
      obtain ⟨a, xs, rfl, s, rs⟩ := lstOf_ok R r hl
      have e := blsOf_ok hn rs
      subst e
      exact ⟨a, ns, rfl, SqL.of s, A g H _ Ext.refl R (by simp only [VR])⟩
    · exact A.elim
  · exact A.elim⟩
def vTuple (v : Val) (h : Hv) : Res Val := match seqOf h v with
  | some l => .ok (.tup l) h
  | none => .fail
theorem c1_tuple : C1 X (.type "tuple") vTuple := ⟨_, call_tuple_of, fun W g H h σ v x Q R r A => by
  unfold vTuple at A
  split at A
  · rename_i l hl
    obtain ⟨a, xs, rfl, s, rs⟩ := seqOf_ok R r hl
    rcases s with s | s
    · refine ⟨a, xs, rfl, .inl ⟨s, fun q nq => ?_⟩⟩
      obtain ⟨E4, R4⟩ := R.grow (o := .tup xs) nq
      refine A g _ (.ref q) E4 R4 ?_
      simp only [VR]
      exact ⟨q, _, rfl, SqT.of upd_same, rs.ext R E4⟩
    · refine ⟨a, xs, rfl, .inr ⟨s, A g H _ Ext.refl R ?_⟩⟩
      simp only [VR]
      exact ⟨a, xs, rfl, s, rs⟩
  · exact A.elim⟩
def vList (v : Val) (h : Hv) : Res Val := match seqOf h v with
  | some l => .ok (.lst l) h
  | none => .fail
theorem c1_list : C1 X (.type "list") vList := ⟨_, call_list_of, fun W g H h σ v x Q R r A => by
  unfold vList at A
  split at A
  · rename_i l hl
    obtain ⟨a, xs, rfl, s, rs⟩ := seqOf_ok R r hl
    refine ⟨a, xs, rfl, s, fun q nq => ?_⟩
    obtain ⟨E4, R4⟩ := R.grow (o := .lst xs) nq
    refine A g _ (.ref q) E4 R4 ?_
    simp only [VR]
    exact ⟨q, _, rfl, R.fresh nq, upd_same, rs.ext R E4⟩
  · exact A.elim⟩
/-- .. that is written later on -/
def vListM (v : Val) (h : Hv) : Res Val := match seqOf h v with
  | some l => .ok (.ref h.length) (h ++ [.lst l])
  | none => .fail
theorem push_ok {W : WX} {σ : L2.St} {g : Gh} {H : Hp} {h : Hv} {Q : VK} {ob : Ob} {o : HO} (R : HR X.K g H h) (A : After X.K W (vr X.K) σ g H Q (.ok (.ref h.length) (h ++ [ob]))) {q : Addr} (nq : H q = none)
    (ok : ∀ E : Ext g H ⟨g.m ++ [q], g.r⟩ (upd H q o), OR X.K ⟨g.m ++ [q], g.r⟩ (upd H q o) q ob) : Q (.ref q) (upd H q o) := by
  have E : Ext g H ⟨g.m ++ [q], g.r⟩ (upd H q o) := ⟨⟨[q], rfl, fun b hb => by rw [List.mem_singleton.mp hb]; exact nq⟩, rfl, fun b u e hb => by rw [upd_ne (ne_of_none e nq)]; exact e, fun b u e => ⟨u, by rw [upd_ne (ne_of_none e nq)]; exact e⟩⟩
  obtain ⟨_, R1⟩ := R.push (o := o) (ob := ob) nq (ok E)
  refine A _ _ (.ref q) E R1 ?_
  simp only [VR]
  refine ⟨q, rfl, ?_⟩
  show (g.m ++ [q])[h.length]? = some q
  rw [← R.len]
  simp
theorem c1_listM : C1 X (.type "list") vListM := ⟨_, call_list_of, fun W g H h σ v x Q R r A => by
  unfold vListM at A
  split at A
  · rename_i l hl
    obtain ⟨a, xs, rfl, s, rs⟩ := seqOf_ok R r hl
    exact ⟨a, xs, rfl, s, fun q nq => push_ok R A nq fun E => ⟨xs, upd_same, rs.ext R E⟩⟩
  · exact A.elim⟩
/-- dict(d): a copy -/
def vDict (v : Val) (h : Hv) : Res Val := match dicOf h v with
  | some l => .ok (.ref h.length) (h ++ [.dic l])
  | none => .fail
theorem c1_dict : C1 X (.type "dict") vDict := ⟨_, call_dictD, fun W g H h σ v x Q R r A => by
  unfold vDict at A
  split at A
  · rename_i l hl
    obtain ⟨i, a, ks, rfl, rfl, hm, hi, ha, d⟩ := dicOf_ok R r hl
    exact ⟨a, ks, rfl, .inl ha, fun q nq => push_ok R A nq fun E => ⟨ks, upd_same, d.1, d.2.ext R E⟩⟩
  · exact A.elim⟩

/-! ### methods -/
def isLst (h : Hv) (v : Val) : Bool := (lstOf h v).isSome
/-- x.append(e): the receiver stands first -/
def vAppend (x v : Val) (h : Hv) : Res Val := match x with
  | .ref i => match h[i]? with
    | some (.lst l) => if l.length < lineN then .ok .non (h.set i (.lst (l ++ [v]))) else .fail
    | _ => .fail
  | _ => .fail
def dMeth1 (ok : Hv → Val → Bool) (f : Val → Val → Hv → Res Val) (o e : Den) : Den := fun l h => (o l h).bind fun x h1 => if ok h1 x = true then (e l h1).bind fun v h2 => f x v h2 else .fail
theorem lst_ty {K : PySem.W.Frag} {g : Gh} {H : Hp} {h : Hv} {v : Val} {x : V} (R : HR K g H h) (r : VR K g H v x) (e : isLst h v = true) : tyV K "list" x H := by
  unfold isLst at e
  obtain ⟨l, hl⟩ := Option.isSome_iff_exists.mp e
  obtain ⟨a, xs, rfl, s, _⟩ := lstOf_ok R r hl
  exact .inl ⟨rfl, xs, SqL.of s⟩
def M1R (X : Cx) (T id : String) (ok : Hv → Val → Bool) (f : Val → Val → Hv → Res Val) : Prop := (∀ (g : Gh) (H : Hp) (h : Hv) (v : Val) (x : V), HR X.K g H h → VR X.K g H v x → ok h v = true → tyV X.K T x H) ∧
  ∃ r, MtR X id r ∧ ∀ (W : WX) (g : Gh) (H : Hp) (h : Hv) (σ : L2.St) (v u : Val) (x y : V) (Q : VK), HR X.K g H h → VR X.K g H v x → VR X.K g H u y → After X.K W (vr X.K) σ g H Q (f v u h) → r x [y] H Q
theorem ge_meth1 {T id : String} {name : Str} {ok : Hv → Val → Bool} {f : Val → Val → Hv → Res Val} {o e : Expr} {dx de : Den} {apos cpos : Pos} (hf : M1R X T id ok f) (pa : PlainAttrs T) (slot : Slot T name id) (hty : typeOf (.builtin id) = pure (.type "method_descriptor")) (ho : GE X W o dx) (he : GE X W e de)
    (hbase : attributeBase o name X.env (eval o X.env) = eval o X.env := by rfl)
    (hfew : ((backTo cpos (starEach [e] X.env)).all (fun x => !x.1) && (backToKw cpos (keywordEach [] X.env)).all (fun x => x.1.isSome)
      && decide (([e] : List Expr).length + ([] : List Keyword).length + (if ([] : List Keyword).isEmpty then 0 else 1) < 30)) = true := by rfl)
    (hline : (apos.endLine == cpos.line) = true := by rfl) (hs : starEach [e] X.env = (false, eval e X.env) :: starEach [] X.env := by rfl) (hplain : (backTo cpos (starEach [] X.env)).any (·.1) = false := by rfl) :
    GE X W (.Call (.Attribute o name apos) [e] [] cpos) (dMeth1 ok f dx de) := by
  obtain ⟨hty2, r, hc, hr⟩ := hf
  refine PE.imp (pe_bm pa slot hty hc ho (pa_cons he pa_nil hs) hbase hfew hline hs hplain) fun σ H Q ⟨g, l, h, S, R, A⟩ => ?_
  refine tG_of S R A fun v h1 g1 H1 x E S1 R1 r1 A1 => ?_
  split at A1
  · rename_i ok1
    refine ⟨hty2 g1 H1 h1 v x R1 r1 ok1, ?_⟩
    exact tG_of S1 R1 A1 fun u h2 g2 H2 y E2 S2 R2 r2 A2 => hr W g2 H2 h2 σ v u x y Q R2 (r1.ext R1 E2) r2 A2
  · exact A1.elim
theorem m1_append : M1R X "list" "list.append" isLst vAppend := ⟨fun g H h v x R r e => lst_ty R r e, _, mt_append, fun W g H h σ v u x y Q R rv ru A => by
  unfold vAppend at A
  split at A
  · rename_i i
    split at A
    · rename_i l hl
      split at A
      · rename_i hz
        simp only [VR] at rv
        obtain ⟨a, rfl, hm⟩ := rv
        obtain ⟨xs, e1, rs⟩ := ref_at R hl hm
        refine ⟨a, xs, y, rfl, rfl, e1, by rw [← rs.length]; exact line_lt hz, ?_⟩
        obtain ⟨E, R1⟩ := R.write (ob := .lst (l ++ [u])) (o' := .lst (xs ++ [y])) hm fun E => ⟨_, upd_same, (rs.ext R E).append (.one (ru.ext R E))⟩
        exact A g _ .non E R1 (by simp only [VR])
      · exact A.elim
    · exact A.elim
  · exact A.elim⟩
theorem ge_append {o e : Expr} {dx de : Den} {apos cpos : Pos} (ho : GE X W o dx) (he : GE X W e de) (hbase : attributeBase o "append" X.env (eval o X.env) = eval o X.env := by rfl)
    (hfew : ((backTo cpos (starEach [e] X.env)).all (fun x => !x.1) && (backToKw cpos (keywordEach [] X.env)).all (fun x => x.1.isSome)
      && decide (([e] : List Expr).length + ([] : List Keyword).length + (if ([] : List Keyword).isEmpty then 0 else 1) < 30)) = true := by rfl)
    (hline : (apos.endLine == cpos.line) = true := by rfl) (hs : starEach [e] X.env = (false, eval e X.env) :: starEach [] X.env := by rfl) (hplain : (backTo cpos (starEach [] X.env)).any (·.1) = false := by rfl) :
    GE X W (.Call (.Attribute o "append" apos) [e] [] cpos) (dMeth1 isLst vAppend dx de) := ge_meth1 m1_append PySem.F.plainAttrs_list PySem.F.slot_list_append PySem.F.type_list_append ho he hbase hfew hline hs hplain
/-- x.extend(e) -/
def vExtend (x v : Val) (h : Hv) : Res Val := match x with
  | .ref i => match h[i]?, seqOf h v with
    | some (.lst l), some k => if l.length + k.length ≤ lineN then .ok .non (h.set i (.lst (l ++ k))) else .fail
    | _, _ => .fail
  | _ => .fail
def rExtT (K : PySem.W.Frag) : V → List V → Hp → VK → Prop := fun x vs H Q => ∃ l b xs zs, x = .ref l ∧ vs = [.ref b] ∧ H l = some (.lst xs) ∧ SqT K H b zs ∧ xs.length + zs.length ≤ sizeLine ∧ Q .non (upd H l (.lst (xs ++ zs)))
theorem m1_extend_l : M1R X "list" "list.extend" isLst (fun x v h => if (lstOf h v).isSome then vExtend x v h else .fail) := ⟨fun g H h v x R r e => lst_ty R r e, _, mt_extend, fun W g H h σ v u x y Q R rv ru A => by
  dsimp only at A
  split at A
  · rename_i hs
    obtain ⟨k, hk⟩ := Option.isSome_iff_exists.mp hs
    have hk2 : seqOf h u = some k := by cases u <;> first | exact hk | (simp [lstOf] at hk)
    unfold vExtend at A
    split at A
    · rename_i i
      split at A
      · rename_i l k' hl hk'
        rw [hk2] at hk'
        cases hk'
        split at A
        · rename_i hz
          simp only [VR] at rv
          obtain ⟨a, rfl, hm⟩ := rv
          obtain ⟨xs, e1, rs⟩ := ref_at R hl hm
          obtain ⟨b, zs, rfl, s2, rz⟩ := lstOf_ok R ru hk
          refine ⟨a, b, xs, zs, rfl, rfl, e1, s2, by rw [← rs.length, ← rz.length]; exact line_ok hz, ?_⟩
          obtain ⟨E, R1⟩ := R.write (ob := .lst (l ++ k)) (o' := .lst (xs ++ zs)) hm fun E => ⟨_, upd_same, (rs.append rz).ext R E⟩
          exact A g _ .non E R1 (by simp only [VR])
        · exact A.elim
      · exact A.elim
    · exact A.elim
  · exact A.elim⟩
/-- x.pop() -/
def vPop (x : Val) (h : Hv) : Res Val := match x with
  | .ref i => match h[i]? with
    | some (.lst l) => match l.getLast? with
      | some v => .ok v (h.set i (.lst l.dropLast))
      | none => .fail
    | _ => .fail
  | _ => .fail
def dMeth0 (ok : Hv → Val → Bool) (f : Val → Hv → Res Val) (o : Den) : Den := fun l h => (o l h).bind fun x h1 => if ok h1 x = true then f x h1 else .fail
theorem ge_meth0 {T id : String} {name : Str} {ok : Hv → Val → Bool} {f : Val → Hv → Res Val} {o : Expr} {dx : Den} {apos cpos : Pos} {r : V → List V → Hp → VK → Prop} (pa : PlainAttrs T) (slot : Slot T name id) (hty : typeOf (.builtin id) = pure (.type "method_descriptor")) (hc : MtR X id r)
    (hty2 : ∀ (g : Gh) (H : Hp) (h : Hv) (v : Val) (x : V), HR X.K g H h → VR X.K g H v x → ok h v = true → tyV X.K T x H)
    (hr : ∀ (W : WX) (g : Gh) (H : Hp) (h : Hv) (σ : L2.St) (v : Val) (x : V) (Q : VK), HR X.K g H h → VR X.K g H v x → After X.K W (vr X.K) σ g H Q (f v h) → r x [] H Q) (ho : GE X W o dx)
    (hbase : attributeBase o name X.env (eval o X.env) = eval o X.env := by rfl) (hline : (apos.endLine == cpos.line) = true := by rfl) : GE X W (.Call (.Attribute o name apos) [] [] cpos) (dMeth0 ok f dx) := by
  refine PE.imp (pe_bm0 pa slot hty hc ho hbase hline) fun σ H Q ⟨g, l, h, S, R, A⟩ => ?_
  refine tG_of S R A fun v h1 g1 H1 x E S1 R1 r1 A1 => ?_
  split at A1
  · rename_i ok1
    exact ⟨hty2 g1 H1 h1 v x R1 r1 ok1, hr W g1 H1 h1 σ v x Q R1 r1 A1⟩
  · exact A1.elim
theorem VRs.dropLast {K : PySem.W.Frag} {g : Gh} {H : Hp} {l : List Val} {xs : List V} (r : VRs K g H l xs) : VRs K g H l.dropLast xs.dropLast := by
  rw [List.dropLast_eq_take, List.dropLast_eq_take, r.length]
  exact r.take _
theorem ge_pop {o : Expr} {dx : Den} {apos cpos : Pos} (ho : GE X W o dx) (hbase : attributeBase o "pop" X.env (eval o X.env) = eval o X.env := by rfl) (hline : (apos.endLine == cpos.line) = true := by rfl) : GE X W (.Call (.Attribute o "pop" apos) [] [] cpos) (dMeth0 isLst vPop dx) :=
  ge_meth0 PySem.F.plainAttrs_list PySem.F.slot_list_pop PySem.F.type_list_pop mt_pop (fun g H h v x R r e => lst_ty R r e) (fun W g H h σ v x Q R rv A => by
    unfold vPop at A
    split at A
    · rename_i i
      split at A
      · rename_i l hl
        split at A
        · rename_i w hw
          simp only [VR] at rv
          obtain ⟨a, rfl, hm⟩ := rv
          obtain ⟨xs, e1, rs⟩ := ref_at R hl hm
          rw [List.getLast?_eq_getElem?] at hw
          obtain ⟨y, hy, ry⟩ := rs.get hw
          refine ⟨a, xs, y, rfl, rfl, e1, by rw [← rs.length]; exact hy, ?_⟩
          obtain ⟨E, R1⟩ := R.write (ob := .lst l.dropLast) (o' := .lst xs.dropLast) hm fun E => ⟨_, upd_same, rs.dropLast.ext R E⟩
          exact A g _ y E R1 (ry.ext R E)
        · exact A.elim
      · exact A.elim
    · exact A.elim) ho hbase hline
/-- d.get(k), d.get(k, x) -/
def isDic (h : Hv) (v : Val) : Bool := (dicOf h v).isSome
def dGet1 (o e : Den) : Den := fun l h => (o l h).bind fun x h1 => if isDic h1 x = true then (e l h1).bind fun k h2 => (match dicOf h2 x, keyOf k with
  | some l, some _ => .ok ((dGet l k).getD .non) h2
  | _, _ => .fail) else .fail
def dGet2 (o e f : Den) : Den := fun l h => (o l h).bind fun x h1 => if isDic h1 x = true then (e l h1).bind fun k h2 => (f l h2).bind fun z h3 => (match dicOf h3 x, keyOf k with
  | some l, some _ => .ok ((dGet l k).getD z) h3
  | _, _ => .fail) else .fail
theorem dic_is {K : PySem.W.Frag} {g : Gh} {H : Hp} {h : Hv} {v : Val} {x : V} (R : HR K g H h) (r : VR K g H v x) (e : isDic h v = true) : ∃ a, x = .ref a ∧ IsD H a := by
  unfold isDic at e
  obtain ⟨l, hl⟩ := Option.isSome_iff_exists.mp e
  obtain ⟨i, a, ks, rfl, rfl, hm, hi, ha, d⟩ := dicOf_ok R r hl
  exact ⟨a, rfl, .inl ⟨ks, .inl ha⟩⟩
theorem dget_at {K : PySem.W.Frag} {g : Gh} {H : Hp} {h : Hv} {v k : Val} {x y : V} {l : List (Val × Val)} {kk : Key} (R : HR K g H h) (r : VR K g H v x) (rk : VR K g H k y) (hl : dicOf h v = some l) (hk : keyOf k = some kk) : ∃ a o, x = .ref a ∧ DGet H a y o ∧ ∀ z zx, VR K g H z zx → VR K g H ((dGet l k).getD z) (o.getD zx) := by
  obtain ⟨i, a, ks, rfl, rfl, hm, hi, ha, d⟩ := dicOf_ok R r hl
  obtain ⟨d1, d2⟩ := DR.get hk d
  refine ⟨a, valV ks kk, rfl, ?_, fun z zx rz => ?_⟩
  · rw [key_V rk hk]; exact DGet.k ha
  · cases e : dGet l k with
    | none => rw [d2 e]; exact rz
    | some w => obtain ⟨w', e1, r1⟩ := d1 w e; rw [e1]; exact r1
theorem ge_get1 {o e : Expr} {dx de : Den} {apos cpos : Pos} (hu : X.A.units + 1 < cLine) (ho : GE X W o dx) (he : GE X W e de) (m : M1 X o "get" apos e cpos := by exact ⟨rfl, rfl, rfl, rfl⟩) : GE X W (.Call (.Attribute o "get" apos) [e] [] cpos) (dGet1 dx de) := by
  refine PE.imp (pe_dget1 hu ho he m) fun σ H Q ⟨g, l, h, S, R, A⟩ => ?_
  refine tG_of S R A fun v h1 g1 H1 x E S1 R1 r1 A1 => ?_
  split at A1
  · rename_i ok1
    obtain ⟨a, rfl, hd⟩ := dic_is R1 r1 ok1
    refine ⟨a, rfl, hd, ?_⟩
    refine tG_of S1 R1 A1 fun u h2 g2 H2 y E2 S2 R2 r2 A2 => ?_
    split at A2
    · rename_i k kk hl hk
      obtain ⟨a', o, e1, dg, hz⟩ := dget_at R2 (r1.ext R1 E2) r2 hl hk
      cases e1
      exact ⟨o, dg, A2 g2 H2 _ Ext.refl R2 (hz .non .non (by simp only [VR]))⟩
    · exact A2.elim
  · exact A1.elim
theorem ge_get2 {o e f : Expr} {dx de df : Den} {apos cpos : Pos} (hu : X.A.units + 1 < cLine) (ho : GE X W o dx) (he : GE X W e de) (hf : GE X W f df) (m : M2 X o "get" apos e f cpos := by exact ⟨rfl, rfl, rfl, rfl⟩) : GE X W (.Call (.Attribute o "get" apos) [e, f] [] cpos) (dGet2 dx de df) := by
  refine PE.imp (pe_dget2 hu ho he hf m) fun σ H Q ⟨g, l, h, S, R, A⟩ => ?_
  refine tG_of S R A fun v h1 g1 H1 x E S1 R1 r1 A1 => ?_
  split at A1
  · rename_i ok1
    obtain ⟨a, rfl, hd⟩ := dic_is R1 r1 ok1
    refine ⟨a, rfl, hd, ?_⟩
    refine tG_of S1 R1 A1 fun u h2 g2 H2 y E2 S2 R2 r2 A2 => ?_
    refine tG_of S2 R2 A2 fun w h3 g3 H3 z E3 S3 R3 r3 A3 => ?_
    split at A3
    · rename_i k kk hl hk
      obtain ⟨a', o, e1, dg, hz⟩ := dget_at R3 ((r1.ext R1 E2).ext R2 E3) (r2.ext R2 E3) hl hk
      cases e1
      exact ⟨o, dg, A3 g3 H3 _ Ext.refl R3 (hz w z r3)⟩
    · exact A3.elim
  · exact A1.elim

/-! ### stores -/
/-- o[i] = v -/
def vSet (o i v : Val) (h : Hv) : Option Hv := match o with
  | .ref a => match h[a]? with
    | some (.dic l) => (match keyOf i with
      | some _ => if l.length < lineN then some (h.set a (.dic (dPut l i v))) else none
      | none => none)
    | some (.lst l) => (match i with
      | .int k => (match ixN l.length k with
        | some j => some (h.set a (.lst (l.set j v)))
        | none => none)
      | _ => none)
    | _ => none
  | _ => none
def rSetD : V → V → V → Hp → (Hp → Prop) → Prop := fun o i v H Q => ∃ a H', o = .ref a ∧ DPut H a i v H' ∧ Q H'
theorem set_dict (hu : X.A.units + 1 < cLine) : PSet X rSetD := by
  intro pins s σ H o i v ov iv u Q I ro ri rv h
  obtain ⟨a, H', rfl, d, q⟩ := h
  obtain rfl : ov = Value.ref a := ro
  exact d_setItem hu I d ri rv fun s' I' => ⟨H', I', q⟩
theorem PSet.or {t t' : TSet} (p : PSet X t) (p' : PSet X t') : PSet X fun o i v H Q => t o i v H Q ∨ t' o i v H Q := by
  intro pins s σ H o i v ov iv u Q I ro ri rv h
  rcases h with h | h
  · exact p pins s σ H o i v ov iv u Q I ro ri rv h
  · exact p' pins s σ H o i v ov iv u Q I ro ri rv h
theorem vSet_ok {g : Gh} {H : Hp} {h h' : Hv} {o i v : Val} {x y z : V} {Q : Hp → Prop} (R : HR X.K g H h) (ro : VR X.K g H o x) (ri : VR X.K g H i y) (rv : VR X.K g H v z) (e : vSet o i v h = some h') (q : ∀ H', Ext g H g H' → HR X.K g H' h' → Q H') : rSetL x y z H Q ∨ rSetD x y z H Q := by
  unfold vSet at e
  split at e
  · rename_i a
    simp only [VR] at ro
    obtain ⟨b, rfl, hm⟩ := ro
    split at e
    · rename_i l hl
      split at e
      · rename_i kk hk
        split at e
        · rename_i hz
          cases e
          obtain ⟨ks, e1, d⟩ := ref_at R hl hm
          obtain ⟨E, R1⟩ := R.write (ob := .dic (dPut l i v)) (o' := .dK (putK ks kk z)) hm fun E => ⟨_, upd_same, DR.put ⟨d.1, d.2.ext R E⟩ hk (rv.ext R E)⟩
          refine .inr ⟨b, _, rfl, ?_, q _ E R1⟩
          rw [key_V ri hk]
          exact DPut.k e1 (by rw [← d.length]; exact line_lt hz)
        · cases e
      · cases e
    · rename_i l hl
      split at e
      · rename_i k
        split at e
        · rename_i j hj
          cases e
          obtain ⟨xs, e1, rs⟩ := ref_at R hl hm
          obtain ⟨E, R1⟩ := R.write (ob := .lst (l.set j v)) (o' := .lst (xs.set j z)) hm fun E => ⟨_, upd_same, VRs.set j (rs.ext R E) (rv.ext R E)⟩
          simp only [VR] at ri
          subst ri
          exact .inl ⟨b, xs, k, j, rfl, rfl, e1, by rw [← rs.length]; exact hj, q _ E R1⟩
        · cases e
      · cases e
    · cases e
  · cases e
def Res.toT {α : Type} (r : Res α) (l : Loc) (k : α → Hv → TRes) : TRes := match r with
  | .ok v h => k v h
  | .exc e h => .exc e l h
  | .fail => .fail
@[simp] theorem Res.toT_ok {α : Type} (a : α) (h : Hv) (l : Loc) (k : α → Hv → TRes) : (Res.ok a h).toT l k = k a h := rfl
def gSub (o i : Den) : Tg := fun v l h => (o l h).toT l fun x h1 => (i l h1).toT l fun y h2 => match vSet x y v h2 with
  | some h3 => .ok l h3
  | none => .fail
theorem tG_T {α β : Type} {K : PySem.W.Frag} {W : WX} {σ : L2.St} {g : Gh} {H : Hp} {l : Loc} {h : Hv} {rel : Gh → Hp → α → β → Prop} {d : DenG α} {k : α → Hv → TRes} {Q : L2.St → Hp → Prop} {R : β → Hp → Prop} (S : SR K g H l σ) (hr : HR K g H h) (A : AfterT K W g H Q ((d l h).toT l k))
    (hk : ∀ v h1 g1 H1 x, Ext g H g1 H1 → SR K g1 H1 l σ → HR K g1 H1 h1 → rel g1 H1 v x → AfterT K W g1 H1 Q (k v h1) → R x H1) : tG K W rel d σ H R := by
  refine ⟨g, l, h, S, hr, ?_⟩
  cases e : d l h with
  | ok v h1 =>
    rw [e] at A
    intro g' H' x E R' r
    exact hk v h1 g' H' x E (S.ext hr E) R' r (AfterT.ext E A)
  | exc x h1 =>
    rw [e] at A
    intro g' H' c d' E R' r
    exact A g' H' σ c d' E R' (S.ext hr E) r
  | fail =>
    rw [e] at A
    exact A
theorem gg_sub {o i : Expr} {dx di : Den} {pos : Pos} (hu : X.A.units + 1 < cLine) (ho : GE X W o dx) (hi : GE X W i di)
    (ha : ∀ v, assign (.Subscript o i pos) X.env v = (do
      let ov ← holding [v] (eval o X.env)
      let iv ← holding [v, ov] (eval i X.env)
      standAt pos
      holding [v, ov, iv] (setItem ov iv v)
      release [v, ov, iv] []) := by intro _; rfl) : GG X W (.Subscript o i pos) (gSub dx di) := by
  refine PG.imp (pg_sub ho hi (PSet.or set_list (set_dict hu)) ha) fun y σ H Q ⟨g, l, h, v, S, R, r, A⟩ => ?_
  refine tG_T S R A fun x h1 g1 H1 x' E S1 R1 r1 A1 => ?_
  refine tG_T S1 R1 A1 fun z h2 g2 H2 z' E2 S2 R2 r2 A2 => ?_
  split at A2
  · rename_i h3 e
    exact vSet_ok R2 (r1.ext R1 E2) r2 ((r.ext R E).ext R1 E2) e fun H' E3 R3 => A2 g2 H' σ E3 R3 (S2.ext R2 E3)
  · exact A2.elim
/-- name op= e -/
def sAug (i : Nat) (f : Val → Val → Hv → Res Val) (d : Den) : Stm := fun l h => match l[i]? with
  | some (some x) => (d l h).to l fun y h1 => (f x y h1).to l fun z h2 => .nx (l.set i (some z)) h2
  | _ => .fail
theorem gs_aug (i : Nat) {f : Val → Val → Hv → Res Val} {x : Str} {e : Expr} {d : Den} {op : Operator} {pos' pos : Pos} (ho : OpG X (inplaceOp op) f) (he : GE X W e d) (hN : X.N.Nodup) (hi : X.N[i]? = some x := by rfl) (hx : L2.Loc X.env.scope x := by first | exact Or.inl rfl | exact Or.inr rfl)
    (hf : X.fn x = true ∨ X.env.scope.names.lookup x = some .local := by first | exact .inl rfl | exact .inr rfl) : GS X W (.AugAssign (.Name x pos') op e pos) (sAug i f d) := by
  obtain ⟨r, ho, hr⟩ := ho
  refine PS.imp (ps_aug hN hi hx he ho hf) fun D σ H ⟨g, l, h, S, R, A⟩ => ?_
  unfold sAug at A
  split at A
  · rename_i v ev
    obtain ⟨x, e1, rx⟩ := S.at_ i v ev
    refine ⟨x, e1, ?_⟩
    refine tG_to S R A fun y h1 g1 H1 y' E S1 R1 r1 A1 => ?_
    refine hr W g1 H1 h1 σ v y x y' _ R1 (rx.ext R E) r1 ?_
    cases ef : f v y h1 with
    | ok z h2 =>
      rw [ef] at A1
      exact fun g' H' z' E' R' rz => A1 g' H' _ E' R' ((S1.ext R1 E').set i rz)
    | exc x2 h2 =>
      rw [ef] at A1
      exact fun g' H' c d' E' R' re => A1 g' H' σ c d' E' R' (S1.ext R1 E') re
    | fail => rw [ef] at A1; exact A1
  · exact A.elim
def vIAdd (v u : Val) (h : Hv) : Res Val := match v, u with
  | .int i, .int j => .ok (.int (i + j)) h
  | .str a, .str b => if a.length + b.length ≤ lineN then .ok (.str (a ++ b)) h else .fail
  | _, _ => .fail
theorem og_iadd : OpG X (inplaceOp .Add) vIAdd := by
  refine ⟨_, iop_add.or iop_add_str, fun W g H h σ v u x y Q R rv ru A => ?_⟩
  unfold vIAdd at A
  split at A
  · simp only [VR] at rv ru
    subst rv ru
    exact .inl ⟨_, _, rfl, rfl, A g H _ Ext.refl R (by simp only [VR])⟩
  · split at A
    · rename_i hl
      simp only [VR] at rv ru
      subst rv ru
      exact .inr ⟨_, _, rfl, rfl, by rw [sOf_len, sOf_len]; exact line_ok hl, A g H _ Ext.refl R (by simp only [VR]; rw [sOf_append])⟩
    · exact A.elim
  · exact A.elim
theorem og_isub : OpG X (inplaceOp .Sub) vSub := og_int0 iop_sub fun W g H h σ v u Q R A => by
  unfold vSub at A
  split at A
  · exact ⟨_, _, rfl, rfl, A g H _ Ext.refl R (by simp only [VR])⟩
  · exact A.elim
end
end GH

set_option Elab.async false
set_option linter.all false
set_option maxRecDepth 100000
set_option maxHeartbeats 1000000
set_option autoImplicit false
/-! sorted of data, the first of them an empty tuple too; is of bools; dict displays; what stands at the top. -/
namespace PySem.W
open PySem PySem.Calls PySem.SeqAt PyProof.Rows
section
variable {prog : Program} {w : World} {A : Around} {E : Value → Shared → Prop} {s : Shared}
theorem gh_call_tuple_lt {Q : Value → Shared → Prop} {l b : Addr} {items items2 : Array Value} {e r : Nat → Bool} (hl : s.heap.IsTuple l items) (hb : s.heap.IsTuple b items2)
    (he : ∀ j (h1 : j < items.size) (h2 : j < items2.size), EqAt A.in1 s items[j] items2[j] (e j)) (hr : ∀ j (h1 : j < items.size) (h2 : j < items2.size), e j = false → RcLt A.in1 s items[j] items2[j] (r j))
    (h : Q (.bool (firstLt e r (decide (items.size < items2.size)) (List.range (min items.size items2.size)))) s) : wpAny (model prog w) A (call (.builtin "tuple.__lt__") [.ref l, .ref b]) Q E s := by
  obtain ⟨⟨cls, dd, data, sl⟩, ho, hc, n, hd⟩ := id hl
  obtain ⟨⟨cls2, dd2, data2, sl2⟩, ho2, hc2, n2, hd2⟩ := id hb
  simp only at hc hd hc2 hd2
  subst hc hd hc2 hd2
  exact call_meets F.slot_tuple_lt ⟨_, ho, rfl⟩ F.entry_tuple_lt (F.args_tuple_lt_2 _ _) (tuple_ltAt l b items items2 n n2 dd dd2 sl sl2 e r) ⟨ho, ho2, he, hr, h⟩
theorem gh_oneLt_tup {xs ys : List PyData} {a b : Value} {as bs : List Addr} {Q : Bool → Shared → Prop} (ra : Reads s.heap a (.tuple xs) as) (rb : Reads s.heap b (.tuple ys) bs) (hal : alikeAll xs ys = true)
    (hu : A.units + min (PyData.tuple xs).depth (PyData.tuple ys).depth < cLine) (hq : Q (dataLt (.tuple xs) (.tuple ys)) s) : wpAny (model prog w) A (oneLt' true a b) Q E s := by
  cases ra with
  | @tuple l o vs n _ as₁ h1 h2 h3 h4 =>
    cases rb with
    | @tuple l' o' vs' n' _ bs₁ k1 k2 k3 k4 =>
      have n1 : vs.size = xs.length := by simpa using ReadsAll.length _ _ _ h4
      have n2 : vs'.size = ys.length := by simpa using ReadsAll.length _ _ _ k4
      rw [dataLt_tuple, ← firstLt_toks xs ys hal, ← n1, ← n2] at hq
      rw [oneLt'_eq]
      simp only [if_true]
      refine wpAny_bind (wpAny_cRoomFor (room_here hu) ?_)
      refine wpAny_bind (wpAny_callSpecialIfBound?_slot (T := "tuple") ⟨_, h1, h2⟩ F.slot_tuple_lt (gh_call_tuple_lt (e := pairEq xs ys) (r := fun j => dataLt (xs.getD j .none) (ys.getD j .none)) ⟨_, h1, h2, _, h3⟩ ⟨_, k1, k2, _, k3⟩ (fun j j1 j2 => ?_) (fun j j1 j2 hj => ?_) ?_))
      · have := eqAt_alikeAll xs ys A.in1 s vs.toList vs'.toList _ _ h4 k4 hal (room_in hu) j (by simpa using j1) (by simpa using j2)
        simpa using this
      · have := rcLt_alikeAll xs ys A.in1 s vs.toList vs'.toList _ _ h4 k4 hal (room_in hu) j (by simpa using j1) (by simpa using j2) hj
        simpa using this
      · exact wpAny_truthy_bool hq
theorem gh_kind {M : Model} {vs : List Value} {Q : SortKind → Shared → Prop} {a : Addr} {o : Obj} {n : Nat} {rest : List Value} (ev : vs = .ref a :: rest) (ho : s.heap.get? a = some o) (hc : o.cls = .type "tuple") (hd : o.data = .seq #[] n)
    (hT : ∀ v ∈ vs, ∃ b o xs n, v = .ref b ∧ s.heap.get? b = some o ∧ o.cls = .type "tuple" ∧ o.data = .seq xs n) (hL : ∀ v ∈ vs, Looks M s.heap (typeOf v) (.type "tuple")) (h : Q oneType' s) :
    wpAny M A (keyKind' vs.toArray) Q E s := by
  rw [keyKind'_eq, List.mapM_toArray, map_eq_pure_bind]
  have first : ∀ (v : Value) (b : Addr) (o : Obj) (xs : Array Value) (n : Nat) (Q' : Option Value → Shared → Prop), v = .ref b → s.heap.get? b = some o → o.cls = .type "tuple" → o.data = .seq xs n → Q' xs[0]? s → wpAny M A (firstOfTuple' v) Q' E s := by
    intro v b o xs n Q' e1 e2 e3 e4 q
    subst e1
    rw [kas_first_eq]
    have : Looks M s.heap (typeOf (.ref b)) (.type "tuple") := e3 ▸ (Looks.ld e2).andThen .now
    refine wpAny_bind (this.here ?_)
    rw [if_neg (by simp)]
    exact wpAny_bind (listItems_at e2 e4 (wpAny_pure q))
  have all : ∀ (l : List Value) (Q' : List (Option Value) → Shared → Prop), (∀ v ∈ l, ∃ b o xs n, v = .ref b ∧ s.heap.get? b = some o ∧ o.cls = .type "tuple" ∧ o.data = .seq xs n) → (∀ fs : List (Option Value), fs.length = l.length → Q' fs s) → wpAny M A (l.mapM firstOfTuple') Q' E s := by
    intro l
    induction l with
    | nil => intro Q' _ q; rw [List.mapM_nil]; exact wpAny_pure (q [] rfl)
    | cons v l ih =>
      intro Q' hv q
      obtain ⟨b, o, xs, n, e1, e2, e3, e4⟩ := hv v (List.mem_cons_self ..)
      rw [List.mapM_cons]
      exact wpAny_bind (first v b o xs n _ e1 e2 e3 e4 (wpAny_bind (ih (fun bs s' => wpAny M A (pure (xs[0]? :: bs)) Q' E s') (fun v hv' => hv v (List.mem_cons_of_mem _ hv')) fun fs hl => wpAny_pure (q _ (by simp [hl])))))
  have go : ∀ fs : List (Option Value), fs.length = rest.length → wpAny M A (do
      if ((none :: fs : List (Option Value)).toArray.all (·.isSome)) = true then
        rule "list.sort.keys-are-tuples"
        return tuples' ((← oneTypeOnly' (((none :: fs : List (Option Value)).toArray.filterMap id))).any (· != .type "tuple"))
      if (((none :: fs : List (Option Value)).toArray)[0]?.bind id).isSome = true then return general'
      return if (← oneTypeOnly' vs.toArray).isSome = true then oneType' else general') Q E s := by
    intro fs hl
    rw [if_neg (by simp), if_neg (by simp)]
    rw [oneTypeOnly'_eq, List.mapM_toArray, map_eq_pure_bind]
    refine wpAny_bind (wpAny_bind (wpAny_bind (kas_mapM (r := Value.type "tuple") _ (fun v hv Q' hq => (hL v hv).here hq) (wpAny_pure ?_))))
    have hall : ((List.map (fun _ => Value.type "tuple") vs).toArray.all fun x => x == Value.type "tuple") = true := by
      simp only [List.all_toArray, List.all_map, List.all_eq_true]
      intro _ _
      exact beq_self_eq_true _
    have h0 : (List.map (fun _ => Value.type "tuple") vs).toArray[0]? = some (Value.type "tuple") := by rw [ev]; simp
    rw [h0]
    simp only [hall, if_true]
    exact wpAny_pure (wpAny_pure h)
  subst ev
  rw [List.mapM_cons]
  refine wpAny_bind (wpAny_bind (wpAny_bind (first _ a o #[] n _ rfl ho hc hd (wpAny_bind (all rest _ (fun v hv => hT v (List.mem_cons_of_mem _ hv)) fun fs hl => wpAny_pure ?_)))))
  exact wpAny_pure (go fs hl)
theorem GhSortsAt {vs : List Value} {ds : List PyData} (e : EachIs (fun v d => ∃ as, Reads s.heap v d as) vs ds) (hal : AllAlike ds) (hk : Sortable ds ∨ ∃ r, ds = .tuple [] :: r) (hu : ∀ d, d ∈ ds → A.units + d.depth < cLine) : SortsAt prog w A s (dataKind s.heap ds) vs := by
  rcases hk with hk | ⟨r, rfl⟩
  · exact SortsAt.data e hal hk hu
  have room : ∀ {d d' : PyData}, d ∈ PyData.tuple [] :: r → A.units + min d.depth d'.depth < cLine := fun {d d'} hd => Nat.lt_of_le_of_lt (Nat.add_le_add_left (Nat.min_le_left _ _) _) (hu d hd)
  have tup : ∀ d, d ∈ PyData.tuple [] :: r → ∃ xs, d = .tuple xs := by
    intro d hd
    have := hal d hd (.tuple []) (List.mem_cons_self ..)
    cases d with
    | tuple xs => exact ⟨xs, rfl⟩
    | _ => simp [alike] at this
  refine ⟨fun v hv => ?_, oneType', ?_, fun h2 E Q hq => ?_⟩
  · obtain ⟨d, hd, as, r⟩ := e.left v hv
    exact ⟨_, dataKind_some hal hd r⟩
  · intro E x y a b Q ha hb hq
    obtain ⟨d, as, hd, ra, rfl⟩ := dataKind_inv ha
    obtain ⟨d', as', hd', rb, rfl⟩ := dataKind_inv hb
    rw [keyLt'_oneType]
    have hdd := hal d hd d' hd'
    have hroom := room (d' := d') hd
    obtain ⟨xs, rfl⟩ := tup d hd
    obtain ⟨ys, rfl⟩ := tup d' hd'
    exact gh_oneLt_tup ra rb (by simpa [alike] using hdd) hroom hq
  · have shape : ∀ v d, d ∈ PyData.tuple [] :: r → (∃ as, Reads s.heap v d as) → ∃ b o xs n ds', v = .ref b ∧ s.heap.get? b = some o ∧ o.cls = .type "tuple" ∧ o.data = .seq xs n ∧ d = .tuple ds' ∧ xs.size = ds'.length := by
      intro v d hd ⟨as, ra⟩
      obtain ⟨ys, rfl⟩ := tup d hd
      cases ra with
      | @tuple l o vs n _ as₁ h1 h2 h3 h4 => exact ⟨l, o, vs, n, ys, rfl, h1, h2, h3, rfl, by simpa using ReadsAll.length _ _ _ h4⟩
    have hT : ∀ v ∈ vs, ∃ b o xs n, v = .ref b ∧ s.heap.get? b = some o ∧ o.cls = .type "tuple" ∧ o.data = .seq xs n := by
      intro v hv
      obtain ⟨d, hd, as, ra⟩ := e.left v hv
      obtain ⟨b, o, xs, n, _, q1, q2, q3, q4, _⟩ := shape v d hd ⟨as, ra⟩
      exact ⟨b, o, xs, n, q1, q2, q3, q4⟩
    have hL : ∀ v ∈ vs, Looks (model prog w) s.heap (typeOf v) (.type "tuple") := by
      intro v hv
      obtain ⟨b, o, xs, n, q1, q2, q3, q4⟩ := hT v hv
      subst q1
      show Looks _ _ (typeOf (Value.ref _)) _
      exact q3 ▸ (Looks.ld q2).andThen .now
    cases e with
    | @cons v0 _ _ _ ra t =>
      obtain ⟨b, o, xs, n, ds', q1, q2, q3, q4, q5, q6⟩ := shape v0 _ (List.mem_cons_self ..) ra
      cases q5
      have : xs = #[] := Array.eq_empty_of_size_eq_zero q6
      subst this
      subst q1
      exact gh_kind rfl q2 q3 q4 hT hL hq
theorem gh_sorted_data {β : Type} {vs : List Value} {bs : List β} {enc : β → PyData} {R : Value → β → Prop} {l : Addr} {Q : Value → Shared → Prop} (hl : s.heap.IsList l vs.toArray) (e : EachIs R vs bs) (er : EachIs (fun v b => ∃ as, Reads s.heap v (enc b) as) vs bs) (hal : AllAlike (bs.map enc)) (hk : Sortable (bs.map enc) ∨ ∃ r, bs.map enc = .tuple [] :: r) (hL : bs.length ≤ sizeLine)
    (hu : ∀ b, b ∈ bs → A.units + 2 + (enc b).depth < cLine) (h : ∀ out, out.length = bs.length → EachIs R out (bs.mergeSort (dataLe false enc)) → Q (.ref (s.heap.objs.size + 1)) { s with heap := sortedAll s.heap vs (List.toArray out) }) :
    wpAny (model prog w) A (call (.builtin "sorted") [.ref l]) Q E s := by
  have er' : EachIs (fun v b => ∃ as, Reads (sortingHeap (copyHeap s.heap vs) (s.heap.objs.size + 1) vs) v (enc b) as) vs bs := er.mono fun _ _ ⟨as, r⟩ => ⟨as, PyProof.Rows.Reads.keeps (fun _ _ => sorting_copy_old) r⟩
  exact sorted_vals hl (GhSortsAt (s := { s with heap := sortingHeap (copyHeap s.heap vs) (s.heap.objs.size + 1) vs }) (each_map (R := fun v d => ∃ as, Reads (sortingHeap (copyHeap s.heap vs) (s.heap.objs.size + 1) vs) v d as) enc er') hal hk (bound_map hu)) (by rw [e.length]; exact hL)
    (h _ (by rw [sortVals_length false rfl]; exact e.length) (sortVals_data false e er' hal))
end
end PySem.W

set_option Elab.async false
set_option linter.all false
set_option maxRecDepth 100000
set_option maxHeartbeats 1000000
set_option autoImplicit false
namespace GH
open PySem PySem.Spec PyProof.Rows L2
section
variable {K : PySem.W.Frag}
theorem OR.own {g g' : Gh} {H : Hp} {t : List Addr} (hm : g'.m = g.m ++ t) (ho : ∀ a, ¬ g.own a → ¬ g'.own a) {a : Addr} {o : Ob} (q : OR K g H a o) : OR K g' H a o := by
  cases o with
  | lst l => obtain ⟨xs, e, r⟩ := q; exact ⟨xs, e, r.own hm ho⟩
  | dic l => obtain ⟨xs, e, r⟩ := q; exact ⟨xs, e, r.1, r.2.own hm ho⟩
  | ins c f => obtain ⟨dx, gs, e, r⟩ := q; exact ⟨dx, gs, e, r.1, r.2.own hm ho⟩
theorem HR.aside {g : Gh} {H : Hp} {h : Hv} {D : Addr} {o : HO} (R1 : HR K g H h) (nD : H D = none) (mo : Mut (some o)) : ExtS g H ⟨g.m, D :: g.r⟩ (upd H D o) ∧ HR K ⟨g.m, D :: g.r⟩ (upd H D o) h := by
  have ES : ExtS g H ⟨g.m, D :: g.r⟩ (upd H D o) := ⟨⟨[], by simp, by simp⟩, ⟨[D], rfl, fun b hb => by rw [List.mem_singleton.mp hb]; exact nD⟩, fun b o e hb => by rw [upd_ne (ne_of_none e nD)]; exact e⟩
  refine ⟨ES, R1.len, R1.nd, fun a ha z => ?_, fun a ha => ?_, fun i o a e1 e2 => ?_⟩
  · rcases List.mem_cons.mp z with z | z
    · subst z; exact R1.fresh nD (.inl ha)
    · exact R1.dis a ha z
  · rcases List.mem_cons.mp ha with z | z
    · subst z; exact ⟨_, upd_same, mo⟩
    · obtain ⟨ob, e, mo⟩ := R1.al a z
      exact ⟨ob, by rw [upd_ne (ne_of_none e nD)]; exact e, mo⟩
  · have q := R1.obj i o a e1 e2
    cases o with
    | lst l => obtain ⟨xs, e, r⟩ := q; exact ⟨xs, by rw [upd_ne (ne_of_none e nD)]; exact e, r.extS R1 ES⟩
    | dic l => obtain ⟨xs, e, r⟩ := q; exact ⟨xs, by rw [upd_ne (ne_of_none e nD)]; exact e, r.1, r.2.extS R1 ES⟩
    | ins c f => obtain ⟨dx, gs, e, r⟩ := q; exact ⟨dx, gs, by rw [upd_ne (ne_of_none e nD)]; exact e, r.1, r.2.extS R1 ES⟩
theorem promote {W : WX} {σ : L2.St} {g1 g2 : Gh} {H1 H : Hp} {h h1 : Hv} {Q : VK} {D : Addr} {o0 o1 : HO} {ob : Ob} (R1 : HR K g1 H1 h1) (nD : H1 D = none) (E : Ext ⟨g1.m, D :: g1.r⟩ (upd H1 D o0) g2 H) (R : HR K g2 H h) (m1 : Mut (some o1))
    (hob : ∀ {g3 : Gh} {t : List Addr}, g3.m = g2.m ++ t → (∀ a, ¬ g2.own a → ¬ g3.own a) → OR K g3 (upd H D o1) D ob) (A : After K W (vr K) σ g1 H1 Q (.ok (.ref h.length) (h ++ [ob]))) : Q (.ref D) (upd H D o1) := by
  have hD : D ∈ g2.r := by rw [E.r]; exact List.mem_cons_self ..
  have er : g2.r = D :: g1.r := E.r
  have hr : ∀ b ∈ g1.r, b ∈ g2.r := fun b hb => by rw [er]; exact List.mem_cons_of_mem _ hb
  have nm : D ∉ g2.m := fun z => R.dis D z hD
  have nr : D ∉ g1.r := fun z => by obtain ⟨o, e⟩ := R1.own_there (.inr z); rw [nD] at e; cases e
  obtain ⟨ods, e0, m0⟩ := R.al D hD
  have R := R.reset (zs := o1) hD e0 m0 m1
  obtain ⟨t, em, n⟩ := E.m
  have em : g2.m = g1.m ++ t := em
  have E' : Ext g1 H1 ⟨g2.m ++ [D], g1.r⟩ (upd H D o1) := ⟨⟨t ++ [D], by show g2.m ++ [D] = _; rw [em, List.append_assoc], fun b hb => by
    rcases List.mem_append.mp hb with hb | hb
    · have q := n b hb
      have hne : b ≠ D := by rintro rfl; rw [upd_same] at q; cases q
      rw [upd_ne hne] at q
      exact q
    · rw [List.mem_singleton.mp hb]; exact nD⟩, rfl, fun b o e hb => by
      have hne := ne_of_none e nD
      rw [upd_ne hne]
      exact E.keep b o (by rw [upd_ne hne]; exact e) hb, fun b o e => by
      have hne := ne_of_none e nD
      rw [upd_ne hne]
      exact E.there b o (by rw [upd_ne hne]; exact e)⟩
  have hm : (Gh.mk (g2.m ++ [D]) g1.r).m = g2.m ++ [D] := rfl
  have ho : ∀ a, ¬ g2.own a → ¬ (Gh.mk (g2.m ++ [D]) g1.r).own a := fun a ha z => by
    rcases z with z | z
    · rcases List.mem_append.mp z with z | z
      · exact ha (.inl z)
      · exact ha (.inr (by rw [List.mem_singleton.mp z]; exact hD))
    · exact ha (.inr (hr a z))
  refine A ⟨g2.m ++ [D], g1.r⟩ (upd H D o1) (.ref D) E' ⟨by simp [R.len], ?_, fun a ha => ?_, fun a ha => R.al a (hr a ha), fun i o a e1 e2 => ?_⟩ ?_
  · show (g2.m ++ [D]).Nodup
    refine List.nodup_append.mpr ⟨R.nd, by simp, fun a ha b hb => ?_⟩
    rw [List.mem_singleton.mp hb]
    rintro rfl
    exact nm ha
  · have ha : a ∈ g2.m ++ [D] := ha
    rcases List.mem_append.mp ha with ha | ha
    · exact fun z => R.dis a ha (hr a z)
    · rw [List.mem_singleton.mp ha]; exact nr
  · have e2 : (g2.m ++ [D])[i]? = some a := e2
    by_cases hi : i < h.length
    · rw [List.getElem?_append_left hi] at e1
      rw [List.getElem?_append_left (by rw [R.len]; exact hi)] at e2
      exact (R.obj i o a e1 e2).own hm ho
    · have hi' : i = h.length := by
        have := (List.getElem?_eq_some_iff.mp e1).1
        simp at this
        omega
      subst hi'
      rw [List.getElem?_append_right (Nat.le_refl _)] at e1
      rw [List.getElem?_append_right (by rw [R.len]; exact Nat.le_refl _)] at e2
      simp at e1
      rw [R.len] at e2
      simp at e2
      subst e1 e2
      exact hob hm ho
  · simp only [VR]
    refine ⟨D, rfl, ?_⟩
    show (g2.m ++ [D])[h.length]? = some D
    rw [← R.len]
    simp

/-! ### dict displays -/
def dPairs : List (Den × Den) → Loc → Hv → Res (List (Val × Val))
  | [], _, h => .ok [] h
  | (a, b) :: r, l, h => match a l h with
    | .ok k h1 => (match b l h1 with
      | .ok v h2 => (match dPairs r l h2 with
        | .ok ps h3 => .ok ((k, v) :: ps) h3
        | _ => .fail)
      | _ => .fail)
    | _ => .fail
def dMk (ps : List (Val × Val)) : List (Val × Val) := ps.foldl (fun acc p => dPut acc p.1 p.2) []
def dDisp (ds : List (Den × Den)) : Den := fun l h => match dPairs ds l h with
  | .ok ps h1 => if (ps.all fun p => (keyOf p.1).isSome) = true ∧ ps.length ≤ 15 then .ok (.ref h1.length) (h1 ++ [.dic (dMk ps)]) else .fail
  | _ => .fail
abbrev tPP (K : PySem.W.Frag) (ds : List (Den × Den)) : List (TE × TE) := ds.map fun p => (tG K W0 (vr K) p.1, tG K W0 (vr K) p.2)
theorem pairs_of {l : Loc} {σ : L2.St} : ∀ {ds : List (Den × Den)} {g : Gh} {H : Hp} {h h' : Hv} {ps : List (Val × Val)} {Rq : List (V × V) → Hp → Prop}, SR K g H l σ → HR K g H h → dPairs ds l h = .ok ps h' →
    (∀ g' H' xs, Ext g H g' H' → HR K g' H' h' → VRs K g' H' (ps.map (·.1)) (xs.map (·.1)) → VRs K g' H' (ps.map (·.2)) (xs.map (·.2)) → Rq xs H') → tPairs (tPP K ds) σ H Rq
  | [], g, H, h, h', ps, Rq, S, R, e, c => by
    simp only [dPairs, Res.ok.injEq] at e
    obtain ⟨rfl, rfl⟩ := e
    exact c g H [] Ext.refl R VRs.nil VRs.nil
  | (a, b) :: r, g, H, h, h', ps, Rq, S, R, e, c => by
    simp only [dPairs] at e
    split at e
    · rename_i k h1 ea
      split at e
      · rename_i v h2 eb
        split at e
        · rename_i ps' h3 er
          simp only [Res.ok.injEq] at e
          obtain ⟨rfl, rfl⟩ := e
          refine ⟨g, l, h, S, R, ?_⟩
          dsimp only
          rw [ea]
          intro g1 H1 x E1 R1 rk
          have S1 := S.ext R E1
          refine ⟨g1, l, h1, S1, R1, ?_⟩
          show After K W0 (vr K) σ g1 H1 _ (b l h1)
          rw [eb]
          intro g2 H2 y E2 R2 rv
          refine pairs_of (S1.ext R1 E2) R2 er fun g3 H3 xs E3 R3 r1 r2 => ?_
          refine c g3 H3 ((x, y) :: xs) ((E1.trans E2).trans E3) R3 ?_ ?_
          · exact VRs.cons ((VR.ext R1 E2 rk).ext R2 E3) r1
          · exact VRs.cons (VR.ext R2 E3 rv) r2
        · cases e
      · cases e
    · cases e
def GPs (X : Cx) (pos : Pos) (keys : List (Option Expr)) (values : List Expr) (ds : List (Den × Den)) : Prop := PPs X pos keys values (tPP X.K ds)
section
variable {X : Cx} {W : WX}
theorem gps_nil {pos : Pos} : GPs X pos [] [] [] := pps_nil
theorem gps_cons {pos : Pos} {k v : Expr} {ks : List (Option Expr)} {vs : List Expr} {a b : Den} {ds : List (Den × Den)} (hk : GE X W0 k a) (hv : GE X W0 v b) (hr : GPs X pos ks vs ds) : GPs X pos (some k :: ks) (v :: vs) ((a, b) :: ds) := pps_cons hk hv hr
theorem merge_ok {g : Gh} {H : Hp} : ∀ {ps : List (Val × Val)} {kvs : List (Key × V)} {acc : List (Val × Val)} {ka : List (Key × V)}, DR K g H acc ka → ps.map (fun p => keyOf p.1) = kvs.map (fun q => some q.1) → VRs K g H (ps.map (·.2)) (kvs.map (·.2)) →
    DR K g H (ps.foldl (fun acc p => dPut acc p.1 p.2) acc) (mergeK ka kvs)
  | [], [], acc, ka, d, _, _ => d
  | [], _ :: _, _, _, _, e, _ => by cases e
  | _ :: _, [], _, _, _, e, _ => by cases e
  | p :: ps, q :: kvs, acc, ka, d, e, r => by
    simp only [List.map_cons, List.cons.injEq] at e
    simp only [List.map_cons, VRs] at r
    obtain ⟨x, xs, e1, r1, r2⟩ := r
    cases e1
    show DR K g H (ps.foldl (fun acc p => dPut acc p.1 p.2) (dPut acc p.1 p.2)) (mergeK (putK ka q.1 q.2) kvs)
    exact merge_ok (d.put e.1 r1) e.2 r2
theorem kvs_of {g : Gh} {H : Hp} : ∀ {ps : List (Val × Val)} {xs : List (V × V)}, (ps.all fun p => (keyOf p.1).isSome) = true → VRs K g H (ps.map (·.1)) (xs.map (·.1)) → VRs K g H (ps.map (·.2)) (xs.map (·.2)) →
    ∃ kvs : List (Key × V), xs = kvs.map (fun kv => (kV kv.1, kv.2)) ∧ ps.map (fun p => keyOf p.1) = kvs.map (fun q => some q.1) ∧ VRs K g H (ps.map (·.2)) (kvs.map (·.2)) ∧ kvs.length = ps.length
  | [], [], _, _, _ => ⟨[], rfl, rfl, VRs.nil, rfl⟩
  | [], _ :: _, _, r, _ => by simp [VRs] at r
  | _ :: _, [], _, r, _ => by simp [VRs] at r
  | p :: ps, x :: xs, a, r1, r2 => by
    simp only [List.all_cons, Bool.and_eq_true] at a
    simp only [List.map_cons, VRs] at r1 r2
    obtain ⟨y, ys, e1, q1, t1⟩ := r1
    cases e1
    obtain ⟨y, ys, e1, q2, t2⟩ := r2
    cases e1
    obtain ⟨kvs, e1, e2, e3, e4⟩ := kvs_of a.2 t1 t2
    obtain ⟨k, hk⟩ := Option.isSome_iff_exists.mp a.1
    refine ⟨(k, x.2) :: kvs, ?_, ?_, ?_, by simp [e4]⟩
    · rw [e1, List.map_cons, ← key_V q1 hk]
    · simp only [List.map_cons, hk, e2]
    · exact VRs.cons q2 e3
theorem ge_disp {keys : List (Option Expr)} {values : List Expr} {ds : List (Den × Den)} {pos : Pos} (hp : GPs X pos keys values ds) (hall : keys.all (·.isSome) = true := by rfl) (hl : keys.length = values.length := by rfl) (h0 : keys ≠ [] := by exact fun h => nomatch h)
    (h15 : keys.length ≤ 15 := by decide) : GE X W (.Dict keys values pos) (dDisp ds) := by
  refine PE.imp (pe_disp hp hall hl h0 h15) fun σ H Q ⟨g, l, h, S, R, A⟩ p np => ?_
  obtain ⟨ES, RD⟩ := R.aside (o := .dK []) np trivial
  unfold dDisp at A
  split at A
  · rename_i ps h1 ep
    split at A
    · rename_i hk
      refine pairs_of (S.extS R ES) RD ep fun g2 H2 xs E R2 r1 r2 => ?_
      obtain ⟨kvs, e1, e2, e3, e4⟩ := kvs_of hk.1 r1 r2
      have hD : p ∈ g2.r := by rw [E.r]; exact List.mem_cons_self ..
      have e0 : H2 p = some (.dK []) := E.keep p _ upd_same (fun z => R.fresh np (.inl z))
      refine ⟨e0, kvs, e1, by rw [e4]; exact hk.2, ?_⟩
      refine promote R np E R2 trivial (fun hm ho => ?_) A
      obtain ⟨ods, eq0, m0⟩ := R2.al p hD
      have d := merge_ok DR.nil e2 (e3.reset (zs := .dK (mergeK [] kvs)) hD eq0 m0)
      exact ⟨_, upd_same, d.1, d.2.own hm ho⟩
    · exact A.elim
  · exact A.elim

/-! ### {} -/
def dNewD : Den := fun _ h => .ok (.ref h.length) (h ++ [.dic []])
theorem ge_dnew {pos : Pos} : GE X W (.Dict [] [] pos) dNewD := PE.imp pe_dnewK fun σ H Q ⟨g, l, h, S, R, A⟩ p np => push_ok R A np fun E => ⟨[], upd_same, DR.nil⟩

/-! ### is of bools -/
def vIsB (v u : Val) (h : Hv) : Res Val := match v, u with
  | .bl a, .bl b => .ok (.bl (decide (a = b))) h
  | _, _ => .fail
def vNotB (v u : Val) (h : Hv) : Res Val := match v, u with
  | .bl a, .bl b => .ok (.bl (!decide (a = b))) h
  | _, _ => .fail
theorem og_isB : OpG X (compareOp .Is) vIsB := by
  refine ⟨_, op_isBl, fun W g H h σ v u x y Q R rv ru A => ?_⟩
  unfold vIsB at A
  split at A
  · simp only [VR] at rv ru
    exact ⟨_, _, rv, ru, A g H _ Ext.refl R (by simp only [VR])⟩
  · exact A.elim
theorem og_notB : OpG X (compareOp .IsNot) vNotB := by
  refine ⟨_, op_notBl, fun W g H h σ v u x y Q R rv ru A => ?_⟩
  unfold vNotB at A
  split at A
  · simp only [VR] at rv ru
    exact ⟨_, _, rv, ru, A g H _ Ext.refl R (by simp only [VR])⟩
  · exact A.elim

/-! ### never -/
def dFail : Den := fun _ _ => .fail
def sFail : Stm := fun _ _ => .fail
theorem ge_fail {e : Expr} : GE X W e dFail := ⟨fun _ _ _ _ _ _ ⟨_, _, _, _, _, A⟩ => A.elim⟩
theorem gs_fail {s : Stmt} : GS X W s sFail := ⟨fun _ _ _ _ _ _ ⟨_, _, _, _, _, A⟩ => A.elim⟩
theorem gss_fail {s : List Stmt} : GSs X W s sFail := ⟨fun _ _ _ _ _ _ ⟨_, _, _, _, _, A⟩ => A.elim⟩

/-! ### what stands at the top -/
theorem ge_top {x : Str} {v : Val} {y : V} {u : Value} {pos : Pos} (hm : X.mg x = some u) (r : RelV y u) (rv : ∀ g H, VR X.K g H v y) (hg : Gl X x := by rfl) (hd : (x == ("__debug__" : Str)) = false := by decide +kernel) : GE X W (.Name x pos) (dC v) := ge_c (pe_glob hg hm r hd) rv
/-- a table at the top: texts to texts -/
def dTab (t : List (List Nat × Val)) (d : Den) : Den := fun l h => (d l h).bind fun v h1 => match v with
  | .str s => (match t.lookup s with
    | some w => .ok w h1
    | none => .fail)
  | _ => .fail
theorem ix_tab {d : Addr} {es : Array DictEntry} {n : Nat} (D : KDict X.K X.w d es n) : IxR X (fun x y H Q => ∃ (z : Str) (u0 : Value) (v0 : V), x = .ref d ∧ y = .str z ∧ PySem.W.nsIn X.K d z = some (some u0) ∧ RelV v0 u0 ∧ Q v0 H) := by
  intro value slice pins s σ H x y v u Q I rx ry h hs
  obtain ⟨z, u0, v0, rfl, rfl, e, r, q⟩ := h
  have hv : v = Value.ref d := rx
  subst hv
  exact tail_any (kd_type D I) PySem.F.slot_dict_getitem.lookup (op_item_kd D pins s σ H (.ref d) (.str z) (.ref d) u Q I rfl ry ⟨z, u0, v0, rfl, rfl, e, r, q⟩) hs
theorem ge_tab (t : List (List Nat × Val)) {d : Addr} {es : Array DictEntry} {n : Nat} {x : Str} {b : Expr} {db : Den} {p pos : Pos} (D : KDict X.K X.w d es n) (hm : X.mg x = some (.ref d)) (ht : ∀ q ∈ t, ∃ u y, PySem.W.nsIn X.K d (sOf q.1) = some (some u) ∧ RelV y u ∧ ∀ g H, VR X.K g H q.2 y)
    (hb : GE X W b db) (hg : Gl X x := by rfl) (hd : (x == ("__debug__" : Str)) = false := by decide +kernel) (hs : PlainIx b := by exact fun _ _ => rfl) : GE X W (.Subscript (.Name x p) b pos) (dTab t db) := by
  refine PE.imp (pe_ix (ix_tab D) (pe_glob (v := .ref d) hg hm rfl hd) hb hs) fun σ H Q ⟨g, l, h, S, R, A⟩ => ?_
  refine tG_of S R A fun v h1 g1 H1 x E S1 R1 r1 A1 => ?_
  split at A1
  · rename_i s
    split at A1
    · rename_i w e
      have hm : ∃ q ∈ t, q = (s, w) := by
        have gen : ∀ tb : List (List Nat × Val), tb.lookup s = some w → (s, w) ∈ tb := by
          intro tb
          induction tb with
          | nil => intro z; cases z
          | cons p tb ih =>
            intro z
            rw [List.lookup_cons] at z
            split at z
            · rename_i q
              cases z
              rw [show s = p.1 by simpa using q]
              exact List.mem_cons_self ..
            · exact List.mem_cons_of_mem _ (ih z)
        exact ⟨_, gen t e, rfl⟩
      obtain ⟨q, hq, rfl⟩ := hm
      obtain ⟨u, y, e1, e2, e3⟩ := ht _ hq
      simp only [VR] at r1
      subst r1
      exact ⟨_, u, y, rfl, rfl, e1, e2, A1 g1 H1 y Ext.refl R1 (e3 g1 H1)⟩
    · exact A1.elim
  · exact A1.elim

/-! ### sorted -/
def isNE : Val → Bool
  | .tup (_ :: _) => true
  | _ => false
def isPlainK : Val → Bool
  | .bl _ | .int _ | .str _ => true
  | _ => false
def sortOk (l : List Val) : Bool := okVs l && (l.all fun a => l.all fun b => PySem.W.alike (pd a) (pd b)) && (l.all isNE || l.all isPlainK || (match l with
  | .tup [] :: _ => true
  | _ => false)) && decide (dpVs l ≤ 190)
noncomputable def sortV (l : List Val) : List Val := l.mergeSort (PySem.W.dataLe false pd)
noncomputable def vSorted (v : Val) (h : Hv) : Res Val := match lstOf h v with
  | some l => if sortOk l = true then .ok (.lst (sortV l)) h else .fail
  | none => .fail
noncomputable def vSortedM (v : Val) (h : Hv) : Res Val := match lstOf h v with
  | some l => if sortOk l = true then .ok (.ref h.length) (h ++ [.lst (sortV l)]) else .fail
  | none => .fail
def rSortG (K : PySem.W.Frag) : List V → Hp → VK → Prop := fun vs H Q => ∃ (g : Gh) (a : Addr) (xs : List V) (bs : List Val), vs = [.ref a] ∧ SqL K H a xs ∧ VRs K g H bs xs ∧ sortOk bs = true ∧ ∀ ys p, VRs K g H (sortV bs) ys → H p = none → Q (.ref p) (upd H p (.lst ys))
theorem each_VR {g : Gh} {H : Hp} : ∀ {bs : List Val} {xs : List V} {us : List Value}, VRs K g H bs xs → Vals xs us → PySem.W.EachIs (fun u b => ∃ x, RelV x u ∧ VR K g H b x) us bs
  | [], xs, us, r, q => by
    simp only [VRs] at r
    subst r
    cases q
    exact .nil
  | b :: bs, xs, us, r, q => by
    simp only [VRs] at r
    obtain ⟨x, ys, rfl, r1, r2⟩ := r
    cases q with
    | cons q1 q2 => exact .cons ⟨x, q1, r1⟩ (each_VR r2 q2)
theorem VRs_each {g : Gh} {H : Hp} : ∀ {bs : List Val} {us : List Value}, PySem.W.EachIs (fun u b => ∃ x, RelV x u ∧ VR K g H b x) us bs → ∃ xs, VRs K g H bs xs ∧ Vals xs us
  | _, _, .nil => ⟨[], VRs.nil, .nil⟩
  | _, _, .cons ⟨x, q1, r1⟩ t => by
    obtain ⟨xs, r2, q2⟩ := VRs_each t
    exact ⟨x :: xs, VRs.cons r1 r2, .cons q1 q2⟩
theorem okVs_mem : ∀ {l : List Val} {v : Val}, okVs l = true → v ∈ l → okV v = true
  | w :: l, v, o, m => by
    simp only [okVs, Bool.and_eq_true] at o
    rcases List.mem_cons.mp m with rfl | m
    · exact o.1
    · exact okVs_mem o.2 m
theorem dpVs_mem : ∀ {l : List Val} {v : Val}, v ∈ l → dpV v ≤ dpVs l
  | w :: l, v, m => by
    simp only [dpVs]
    rcases List.mem_cons.mp m with rfl | m
    · omega
    · have := dpVs_mem m; omega
theorem cr_sortG (hu : X.A.units + 200 < cLine) : CallR X (.builtin "sorted") (rSortG X.K) := by
  intro pins s σ H vs us Q I r h
  obtain ⟨g, a, xs, bs, rfl, hs, rb, ok, q⟩ := h
  obtain ⟨its, rv, hl, hz⟩ := I.list hs
  rw [Vals.ref1 r]
  simp only [sortOk, Bool.and_eq_true, decide_eq_true_eq] at ok
  obtain ⟨⟨⟨o1, o2⟩, o3⟩, o4⟩ := ok
  have hlen : bs.length = its.length := by rw [rb.length, rv.length]
  refine PySem.W.gh_sorted_data (enc := pd) (bs := bs) hl.isList (each_VR rb rv) ?_ (fun d hd d' hd' => ?_) ?_ (by rw [rb.length]; exact hz) (fun b hb => ?_) fun out hlo eo => ?_
  · refine (PySem.W.each_mem (each_VR rb rv)).mono fun u b ⟨⟨x, q1, q2⟩, hb⟩ => ?_
    exact Dp.reads I _ _ _ (VR.dp (okVs_mem o1 hb) q2) q1
  · obtain ⟨b, hb, rfl⟩ := List.mem_map.mp hd
    obtain ⟨b', hb', rfl⟩ := List.mem_map.mp hd'
    exact List.all_eq_true.mp (List.all_eq_true.mp o2 b hb) b' hb'
  · simp only [Bool.or_eq_true] at o3
    rcases o3 with (o3 | o3) | o3
    · refine .inl (.inl fun d hd => ?_)
      obtain ⟨b, hb, rfl⟩ := List.mem_map.mp hd
      have := List.all_eq_true.mp o3 b hb
      unfold isNE at this
      split at this
      · exact ⟨_, _, by simp only [pd, pds]; rfl⟩
      · cases this
    · refine .inl (.inr fun d hd => ?_)
      obtain ⟨b, hb, rfl⟩ := List.mem_map.mp hd
      have := List.all_eq_true.mp o3 b hb
      unfold isPlainK at this
      split at this
      · exact ⟨by simp [pd], fun xs => by simp [pd]⟩
      · exact ⟨by simp [pd], fun xs => by simp [pd]⟩
      · exact ⟨by simp [pd], fun xs => by simp [pd]⟩
      · cases this
    · split at o3
      · exact .inr ⟨_, by simp only [List.map_cons, pd, pds]; rfl⟩
      · cases o3
  · have h1 := dpVs_mem hb
    rw [pd_depth]
    omega
  · obtain ⟨ys, r1, r2⟩ := VRs_each eo
    obtain ⟨ep, he'⟩ := PyProof.Rows.sortedAll_at s.heap its out.toArray
    have hlen2 : ys.length ≤ sizeLine := by rw [r2.length, hlo, rb.length]; exact hz
    exact ⟨.ref _, upd H (s.heap.objs.size + 1) (.lst ys), I.laid (t' := s.toks) (fun _ _ => PyProof.Rows.sortedAll_old) (Nat.le_succ _) ⟨hlen2, out, ep, r2, he'⟩, rfl, q ys _ r1 (I.hok.fresh (Nat.le_succ _))⟩
theorem sorted_at {g : Gh} {H : Hp} {h : Hv} {v : Val} {x : V} {l : List Val} {Q : VK} (R : HR X.K g H h) (r : VR X.K g H v x) (hl : lstOf h v = some l) (ok : sortOk l = true) (c : ∀ ys p, VRs X.K g H (sortV l) ys → H p = none → Q (.ref p) (upd H p (.lst ys))) : rSortG X.K [x] H Q := by
  obtain ⟨a, xs, rfl, s, rs⟩ := lstOf_ok R r hl
  exact ⟨g, a, xs, l, rfl, SqL.of s, rs, ok, c⟩
theorem c1_sorted (hu : X.A.units + 200 < cLine) : C1 X (.builtin "sorted") vSorted := ⟨_, cr_sortG hu, fun W g H h σ v x Q R r A => by
  unfold vSorted at A
  split at A
  · rename_i l hl
    split at A
    · rename_i ok
      refine sorted_at R r hl ok fun ys p ry np => ?_
      obtain ⟨E4, R4⟩ := R.grow (o := .lst ys) np
      refine A g _ (.ref p) E4 R4 ?_
      simp only [VR]
      exact ⟨p, _, rfl, R.fresh np, upd_same, ry.ext R E4⟩
    · exact A.elim
  · exact A.elim⟩
theorem c1_sortedM (hu : X.A.units + 200 < cLine) : C1 X (.builtin "sorted") vSortedM := ⟨_, cr_sortG hu, fun W g H h σ v x Q R r A => by
  unfold vSortedM at A
  split at A
  · rename_i l hl
    split at A
    · rename_i ok
      exact sorted_at R r hl ok fun ys p ry np => push_ok R A np fun E => ⟨ys, upd_same, ry.ext R E⟩
    · exact A.elim
  · exact A.elim⟩
end
end
end GH

set_option Elab.async false
set_option linter.all false
set_option maxRecDepth 100000
set_option maxHeartbeats 1000000
set_option autoImplicit false
/-! All defs at once: levels; the law's end. -/
namespace GH
open PySem PySem.Spec PyProof.Rows L2
abbrev Gam := Nat → DF
section
variable {X : Cx} {W : WX}
theorem takes0 : Takes X W0 := fun u s' ⟨_, _, _, _, _, _, _, _, _, _, _, _, _, _, _, _, w⟩ => w.elim
/-- arguments, with their number -/
structure GAN (X : Cx) (W : WX) (es : List Expr) (n : Nat) (d : DenG (List Val)) : Prop where
  ga : GA X W es d
  len : ∀ l h vs h', d l h = .ok vs h' → vs.length = n
theorem gan_nil : GAN X W [] 0 dNil := ⟨ga_nil, fun l h vs h' e => by
  simp only [dNil, Res.ok.injEq] at e
  rw [← e.1]; rfl⟩
theorem gan_cons {e : Expr} {es : List Expr} {n : Nat} {d : Den} {r : DenG (List Val)} (ha : GE X W e d) (hr : GAN X W es n r) (hs : starEach (e :: es) X.env = (false, eval e X.env) :: starEach es X.env := by rfl) : GAN X W (e :: es) (n + 1) (dCons d r) := by
  refine ⟨ga_cons ha hr.ga hs, fun l h vs h' q => ?_⟩
  unfold dCons at q
  cases e1 : d l h with
  | exc x h1 => rw [e1] at q; cases q
  | fail => rw [e1] at q; cases q
  | ok v h1 =>
    rw [e1] at q
    simp only [Res.bind_ok] at q
    cases e2 : r l h1 with
    | exc x h2 => rw [e2] at q; cases q
    | fail => rw [e2] at q; cases q
    | ok ws h2 =>
      rw [e2] at q
      simp only [Res.bind_ok, Res.ok.injEq] at q
      rw [← q.1, List.length_cons, hr.len _ _ _ _ e2]
end
/-- a def of the top keeps D -/
structure FnK (P : Program) (w : World) (K : PySem.W.Frag) (mg : Str → Option Value) (base : Heap) (k : Nat) (D : DF) (x : Str) (ps : List Str) : Prop where
  ok : ∃ fd, FnOk P w K mg base (L2.CX P w) k (He.ga K x) fd ps (spG K D ps.length) ∧ Binds K fd ps []
  glo : mg x = some (.ref (He.ga K x))
  keep : PySem.W.keepIn K (.ref (He.ga K x)) = true
section
variable {X : Cx} {W : WX}
theorem ge_fn {D : DF} {k n : Nat} {ps : List Str} {x : Str} {p pos : Pos} {e : Expr} {es : List Expr} {da : DenG (List Val)} (F : FnK X.prog X.w X.K X.mg X.base k D x ps) (hr : Room k X.A) (tk : Takes X W) (ha : GAN X W (e :: es) n da)
    (hn : n = ps.length := by rfl) (hg : Gl X x := by rfl) (hdb : (x == ("__debug__" : Str)) = false := by decide +kernel)
    (he : starEach (e :: es) X.env = (false, eval e X.env) :: starEach es X.env := by rfl) (hpl : (backTo pos (starEach es X.env)).any (·.1) = false := by rfl) : GE X W (.Call (.Name x p) (e :: es) [] pos) (dCall D da) := by
  obtain ⟨fd, F1, b⟩ := F.ok
  exact ge_call F1 hr tk F.glo F.keep b ha.ga (fun l h vs h' q => (ha.len l h vs h' q).trans hn) hg hdb he hpl
end
/-- the defs' promises -/
def AllK (P : Program) (w : World) (K : PySem.W.Frag) (mg : Str → Option Value) (base : Heap) (sig : List (Str × List Str)) (k : Nat) (Γ : Gam) : Prop := ∀ (j : Nat) (x : Str) (ps : List Str), sig[j]? = some (x, ps) → FnK P w K mg base k (Γ j) x ps
def lev (D : Gam → Gam) : Nat → Gam
  | 0 => fun _ _ _ => .fail
  | k + 1 => D (lev D k)
theorem levels {P : Program} {w : World} {K : PySem.W.Frag} {mg : Str → Option Value} {base : Heap} {sig : List (Str × List Str)} {D : Gam → Gam}
    (h0 : ∀ (j : Nat) (x : Str) (ps : List Str), sig[j]? = some (x, ps) → mg x = some (.ref (He.ga K x)) ∧ PySem.W.keepIn K (.ref (He.ga K x)) = true ∧ ∃ fd, Binds K fd ps [])
    (step : ∀ k Γ, AllK P w K mg base sig k Γ → ∀ (j : Nat) (x : Str) (ps : List Str), sig[j]? = some (x, ps) → FnK P w K mg base (k + 1) (D Γ j) x ps) : ∀ k, AllK P w K mg base sig k (lev D k)
  | 0 => fun j x ps e => by
    obtain ⟨g, kp, fd, b⟩ := h0 j x ps e
    refine ⟨⟨fd, ⟨fun vs H Q E h => h.1, fun A outer s H args us vs Q E hr he hb hv hs => ?_⟩, b⟩, g, kp⟩
    obtain ⟨_, _, _, _, _, _, z⟩ := hs
    exact z.elim
  | k + 1 => step k _ (levels h0 step k)
/-- what a law that answers True keeps -/
theorem sp_law {K : PySem.W.Frag} {D : DF} {H : Hp} {a : Addr} {ns : List Int} (hO : Only H) (hs : SqL K H a (ns.map V.int)) (hD : ∃ h', D [.fz (ns.map .int)] [] = .ok (.bl true) h') : spG K D 1 [.ref a] H (fun v _ => v = .bl true) fun _ _ _ => False := by
  obtain ⟨h', e⟩ := hD
  refine ⟨rfl, ⟨[], []⟩, [], [.fz (ns.map .int)], ⟨rfl, List.nodup_nil, fun a ha => absurd ha (by simp), fun a ha => absurd ha (by simp), fun i o a e1 e2 => by simp at e1⟩, ?_, ?_⟩
  · have hint : ∀ ns : List Int, VRs K ⟨[], []⟩ H (ns.map .int) (ns.map V.int) := by
      intro ns
      induction ns with
      | nil => exact VRs.nil
      | cons n ns ih => exact VRs.cons (by simp only [VR]) ih
    refine VRs.one ?_
    simp only [VR]
    refine ⟨a, _, rfl, ?_, hint ns⟩
    rcases hs with (hs | ⟨o, hs⟩) | hs
    · rcases hO a with q | ⟨o, xs, q⟩ <;> rw [q] at hs <;> cases hs
    · exact .inl ⟨o, hs⟩
    · exact .inr hs
  · rw [e]
    intro g' H' x E R r
    simpa only [VR] using r
end GH

set_option Elab.async false
set_option linter.all false
set_option maxRecDepth 100000
set_option maxHeartbeats 1000000
namespace PySem
open Sem (wp)
open AutoSeq1 (wpAny_loadPart')
set_option maxHeartbeats 1000000 in
theorem gh_enumerate_newT (l : Addr) (items : Array Value) (n : Nat) (dct : Option Addr) (sl : Array (Option Value)) :
    Meets (Builtin.«enumerate.__new__» ⟨[.type "enumerate", .ref l], []⟩) (fun _ R s => s.heap.get? l = some { cls := .type "tuple", dict := dct, data := .seq items n, slots := sl } ∧
      R (.ok (.ret (.ref (s.heap.push { cls := .type "tuple_iterator", data := .fields #[.ref l, .int 0 0] }).objs.size)))
        { s with heap := (s.heap.push { cls := .type "tuple_iterator", data := .fields #[.ref l, .int 0 0] }).push { cls := .type "enumerate", data := .fields #[.none, .bool false, .ref s.heap.objs.size, rawInt 0, .none, .none] } }) :=
  .of_wp fun prog w A R s h => by
    obtain ⟨hp, g, d, tk, os⟩ := s; obtain ⟨hl, h⟩ := h
    have hsub := sub_enumerate
    have hL : Heap.IsTuple (Shared.heap ⟨hp, g, d, tk, os⟩) l items := ⟨_, hl, rfl, n, rfl⟩
    wp_walk using wpAny_loadPart' hl
    refine wpAny_stack_any fun st => wpAny_pure ?_
    split
    · rename_i c _ _ _ _ _
      cases (c == Value.type "enumerate")
      · wp_walk using wpAny_loadPart' hl, wpAny_pyIter_tuple hL
        exact ⟨_, rfl, h⟩
      · wp_walk using wpAny_loadPart' hl, wpAny_pyIter_tuple hL
        exact ⟨_, rfl, h⟩
    · wp_walk using wpAny_loadPart' hl, wpAny_pyIter_tuple hL
      exact ⟨_, rfl, h⟩
section
variable {prog : Program} {w : World} {A : Around} {E : Value → Shared → Prop} {s : Shared}
theorem gh_call_enumerate_tuple {l : Addr} {items : Array Value} {Q : Value → Shared → Prop} (hL : s.heap.IsTuple l items)
    (h : ∀ h', IsEnum h' (s.heap.objs.size + 1) s.heap.objs.size 0 .none → h'.IsTupleIter s.heap.objs.size l 0 → h'.objs.size = s.heap.objs.size + 2 →
      (∀ b o, s.heap.get? b = some o → h'.get? b = some o) → Q (.ref (s.heap.objs.size + 1)) { s with heap := h' }) :
    wpAny (model prog w) A (call (.type "enumerate") [.ref l]) Q E s := by
  obtain ⟨⟨c, dct, dt, sl⟩, hl, hc, n, hd⟩ := hL
  replace hc : c = .type "tuple" := hc
  replace hd : dt = .seq items n := hd
  subst hc hd
  refine callType_new F.called_enumerate (by decide) (F.typeCall_enumerate_1 _) (F.newCall_enumerate_1 _) (fun obj => F.args_object_init_2 obj _) F.entry_enumerate_new
    (gh_enumerate_newT l items n dct sl) ⟨hl, ?_⟩
  have hz : (s.heap.push { cls := .type "tuple_iterator", data := .fields #[.ref l, .int 0 0] }).objs.size = s.heap.objs.size + 1 := Heap.size_push ..
  show _ ∧ _
  rw [hz]
  have he : IsEnum ((s.heap.push { cls := .type "tuple_iterator", data := .fields #[.ref l, .int 0 0] }).push
      { cls := .type "enumerate", data := .fields #[.none, .bool false, .ref s.heap.objs.size, rawInt 0, .none, .none] }) (s.heap.objs.size + 1) s.heap.objs.size 0 .none := by
    have := Heap.get?_push_size (s.heap.push { cls := .type "tuple_iterator", data := .fields #[.ref l, .int 0 0] })
      (o := { cls := .type "enumerate", data := .fields #[.none, .bool false, .ref s.heap.objs.size, rawInt 0, .none, .none] }) rfl
    rw [hz] at this; exact this
  exact ⟨⟨_, he, rfl⟩, h _ he ⟨_, Heap.get?_push_of_some _ (Heap.get?_push_size _ rfl), rfl, rfl⟩ (by rw [Heap.size_push, hz]) fun b o x => Heap.get?_push_of_some _ (Heap.get?_push_of_some _ x)⟩
end
end PySem
namespace GH
open PySem PySem.Spec PyProof.Rows L2
/-- the tuple at a, each item in a new pair -/
def IteT (K : PySem.W.Frag) (a : Addr) : It :=
  ⟨fun i H => ∃ (xs : List V) (x : V), SqT K H a xs ∧ xs[i]? = some x, fun i H v H' => ∃ T x, v = .ref T ∧ H T = none ∧ H' = upd H T (.tup [.int (i : Nat), x]) ∧ ∀ xs, SqT K H a xs → xs[i]? = some x, fun i H => ∃ xs : List V, SqT K H a xs ∧ xs.length ≤ i⟩
theorem turn_enumT {P : Program} {w : World} {K : PySem.W.Frag} {elts : List Expr} {kk : Nat} {tpos : Pos} (a e it : Addr) :
    Turn P w K (.Tuple elts kk tpos) (IteT K a) [e, it] e (fun i h => (∃ old, IsEnum h e it ((i : Nat) : Int) old) ∧ h.IsTupleIter it a i ∧ e ≠ it) where
  mem := by simp
  obj := fun i h st b hb => by
    obtain ⟨⟨old, he⟩, ⟨o, ho, hc, hd⟩, _⟩ := st
    have e' : b = e ∨ b = it := by simpa using hb
    rcases e' with z | z
    · rw [z]; exact ⟨_, he, fun v q => nomatch q⟩
    · rw [z]; exact ⟨o, ho, fun v q => by rw [hd] at q; cases q⟩
  keep := fun i h h' st k => let ⟨⟨old, he⟩, hi, hne⟩ := st; ⟨⟨old, k e (by simp) _ he⟩, hi.at fun o q => k it (by simp) o q, hne⟩
  item := by
    intro X hP hw hK hc i pins s σ H E I hf st hg
    subst hP hw hK
    obtain ⟨⟨old, he⟩, hit, hne⟩ := st
    obtain ⟨xs, x, hq, hx⟩ := hg
    obtain ⟨its, rv, p, hz⟩ := I.tuple hq
    obtain ⟨u, hu, ru⟩ := rv.get hx
    have p : s.heap.IsTuple a its.toArray := p
    have hel : e < s.heap.objs.size := Heap.lt_size he
    have hil : it < s.heap.objs.size := by obtain ⟨_, q, _⟩ := hit; exact Heap.lt_size q
    have nai : a ≠ it := by
      rintro rfl
      obtain ⟨o, ho, hc, _⟩ := hit
      obtain ⟨o2, ho2, hc2, _⟩ := p
      rw [ho] at ho2
      cases ho2
      rw [hc] at hc2
      exact absurd hc2 (by decide)
    have nae : e ∉ [it, a] := by
      intro z
      have z : e = it ∨ e = a := by simpa using z
      rcases z with z | rfl
      · exact hne z
      · obtain ⟨o2, ho2, hc2, _⟩ := p
        rw [he] at ho2
        cases ho2
        have hc2 : Value.type "enumerate" = Value.type "tuple" := hc2
        exact absurd hc2 (by decide)
    have D := Draws.tuple (prog := X.prog) (w := X.w) (A := X.A.in1) (I.ok.hd hc) it a nai its.toArray
    refine wpAny_pyNext_enum_itemD D he ⟨hit, p⟩ (by
      have := (List.getElem?_eq_some_iff.mp hu).1
      simpa using this) hne nae fun u' h' tk hP' ho hst' hT hsz hk => ?_
    obtain rfl : u = u' := by
      have : its[i]? = some u' := by simpa using hP'
      rw [hu] at this
      exact Option.some.inj this
    refine ⟨_, rfl, wpAny_letOwnedTupleGo_enum (s := { s with heap := h', toks := tk + 1 }) ho fun h'' he' sb => ?_⟩
    have hT2 : h''.get? s.heap.objs.size = some { cls := .type "tuple", data := .seq #[.int i tk, u] } := (sb.2 _ (Nat.ne_of_gt hel)).trans hT
    have new : ObjOk X.prog X.w (upd H s.heap.objs.size (.tup [.int (i : Nat), x])) h'' s.heap.objs.size (.tup [.int (i : Nat), x]) :=
      ⟨by show 2 ≤ sizeLine; decide, [.int i tk, u], .cons ⟨_, rfl⟩ (.cons ru .nil), ⟨_, hT2, rfl, _, rfl⟩⟩
    have I1 : Inv X pins σ (upd H s.heap.objs.size (.tup [.int (i : Nat), x])) { s with heap := h'', toks := tk + 1 } :=
      I.turnedNew (ch := [e, it]) (fun b ob hb q => (sb.2 b (fun z => hb (by simp [z]))).trans (hk b ob (fun z => hb (by simp [z])) (fun z => hb (by simp [z])) q)) hf (Nat.le_refl _) new
    refine ⟨.ref s.heap.objs.size, _, I1, rfl, ⟨_, x, rfl, I.hok.fresh (Nat.le_refl _), rfl, fun ys hy => by rw [I.tuple_inj hy hq]; exact hx⟩, ⟨⟨u, ?_⟩, hst'.1.at fun o q => (sb.2 it (Ne.symm hne)).trans q, hne⟩, fun b hb => ?_⟩
    · have e1 : ((i + 1 : Nat) : Int) = (i : Int) + 1 := by omega
      rw [e1]; exact he'
    · have hb' : b < s.heap.objs.size := by
        have e' : b = e ∨ b = it := by simpa using hb
        rcases e' with z | z
        · rw [z]; exact hel
        · rw [z]; exact hil
      rw [upd_ne (Nat.ne_of_lt hb')]
      exact (hf b hb).1
  done := by
    intro X hP hw hK hc i pins s σ H E I hf st hg
    subst hP hw hK
    obtain ⟨⟨old, he⟩, hit, hne⟩ := st
    obtain ⟨xs, hq, hx⟩ := hg
    obtain ⟨its, rv, p, hz⟩ := I.tuple hq
    have p : s.heap.IsTuple a its.toArray := p
    obtain ⟨f0, f1, f2, f3, f4, f5⟩ := hf it (by simp)
    have hl := rv.length
    have hT : s.TypeIs (.ref e) "enumerate" := ⟨_, he, rfl⟩
    unfold pyNext
    refine wpAny_bind (wpAny_attempt (wpAny_callSpecial?_slot (name := Str.ofString "__next__") hT F.slot_enumerate_next
      (wpAny_call_entry F.slot_enumerate_next hT F.entry_enumerate_next ?_ (F.args_enumerate_next_1 _))))
    show wpAny _ _ (field (.ref e) 2 >>= _) _ _ _
    refine wpAny_bind (wpAny_field he rfl (x := .ref it) rfl ?_)
    refine wpAny_bind (wpAny_nextOf_tuple_end (A := X.A.in1) (I.ok.hd hc) hit p (by simp; omega) fun h' x eb hx' => ?_)
    obtain ⟨o, ho, hc⟩ := hx'
    refine wpAny_bind (wpAny_isInstance (T := "StopIteration") (b := true) ⟨o, ho, hc⟩ isSubtype_stop ?_)
    exact wpAny_pure ⟨rfl, I.turned (t' := s.toks) (fun b o hb q => eb b o hb q) f0 f1 f3 f4 f5⟩
  self := fun A i s Q E st h => let ⟨⟨_, he⟩, _⟩ := st; wpAny_pyIter_enum he h
section
def enumL (l : List Val) : List Val := l.mapIdx fun i v => .tup [.int (i : Nat), v]
def vEnum (v : Val) (h : Hv) : Res Src := match v with
  | .tup l => .ok (enumL l, none) h
  | .lst l => .ok (enumL l, none) h
  | .fz l => .ok (enumL l, none) h
  | _ => .fail
def iEnumG (d : Den) : DenG Src := fun l h => (d l h).bind vEnum
variable {K : PySem.W.Frag} {g0 g : Gh} {H0 H : Hp}
theorem serves_pairs {J : It} {xs : List V} {l : List Val} {G : Hp → Prop} {h : Hv} (R0 : HR K g0 H0 h) (w : Walk J xs.length G (YPair (fun i => some (.int (i : Nat))) (fun i => xs[i]?))) (hG : ∀ g H, ExtS g0 H0 g H → G H) (r : VRs K g0 H0 l xs) :
    Serves K J g0 H0 (enumL l, none) :=
  serves_of (n := xs.length) (by simp [enumL, r.length]) fun g H h E R _ => ⟨_, _, w, hG g H E, fun i x H' v hv y => by
    obtain ⟨T, x1, y1, rfl, nT, rfl, e1, e2⟩ := y
    unfold enumL at hv
    rw [List.getElem?_mapIdx] at hv
    cases ez : l[i]? with
    | none => rw [ez] at hv; cases hv
    | some p =>
      rw [ez] at hv
      simp at hv
      subst hv
      obtain ⟨a2, b2, c2⟩ := r.get ez
      have e1 : some (V.int (i : Nat)) = some x1 := e1
      have e2 : xs[i]? = some y1 := e2
      rw [e2] at b2; cases b2
      cases e1
      obtain ⟨E4, R4⟩ := R.grow (o := .tup [.int (i : Nat), y1]) nT
      refine ⟨E4, R4, ?_⟩
      simp only [VR]
      exact ⟨T, _, rfl, SqT.of upd_same, VRs.cons (by simp only [VR]) (.one ((c2.extS R0 E).ext R E4))⟩⟩
theorem walk_enumT {a : Addr} {xs : List V} : Walk (IteT K a) xs.length (fun H => SqT K H a xs) (YPair (fun i => some (.int (i : Nat))) (fun i => xs[i]?)) :=
  ⟨fun i _ hi q => ⟨xs, xs[i], q, by simp [hi]⟩, fun _ q => ⟨xs, q, Nat.le_refl _⟩, fun i H x H' _ q y => by
    obtain ⟨T, z, e1, e2, e3, e4⟩ := y
    exact ⟨T, _, z, e1, e2, e3, rfl, e4 xs q⟩⟩
variable {X : Cx} {W : WX}
theorem gi_enum {e : Expr} {d : Den} {p pos tpos : Pos} {elts : List Expr} {kk : Nat} (he : GE X W e d) (hm : X.mg "enumerate" = none) (hg : Gl X "enumerate" := by rfl) (hs : starEach [e] X.env = (false, eval e X.env) :: starEach [] X.env := by rfl) (hs1 : starEach [e] X.env = [(false, eval e X.env)] := by rfl) :
    GI X W (.Tuple elts kk tpos) (.Call (.Name "enumerate" p) [e] [] pos) (iEnumG d) := by
  refine ⟨fun pins s σ H R I ⟨g, l, h, S, Rh, A⟩ => ?_⟩
  have start : tCons (tG X.K W (vr X.K) d) tNil σ H fun vs H1 => ∃ x v h1 g1, vs = [x] ∧ HR X.K g1 H1 h1 ∧ VR X.K g1 H1 v x ∧ AfterI X.K W σ g1 H1 R (vEnum v h1) :=
    tG_I S Rh A fun v h1 g1 H1 x E S1 R1 r1 A1 => ⟨x, v, h1, g1, rfl, R1, r1, A1⟩
  refine Call_ (ld_blt I hg hm boot_enumerate (PyProof.Rows.callWith_type1 (thn ((pa_cons he pa_nil hs).run pos pins s σ H _ I start) fun us s1 ⟨vs, H1, I1, r1, q1⟩ => ?_) hs1 rfl))
  obtain ⟨x, v, h1, g1, rfl, R1, rv, A1⟩ := q1
  cases r1 with
  | cons r rr =>
    cases rr
    have fp : ∀ b ∈ [s1.heap.objs.size + 1, s1.heap.objs.size], FpOk X pins H1 b := fun b hb => by
      have e' : b = s1.heap.objs.size + 1 ∨ b = s1.heap.objs.size := by simpa using hb
      have hle : s1.heap.objs.size ≤ b := by
        rcases e' with z | z
        · rw [z]; exact Nat.le_add_right _ _
        · rw [z]; exact Nat.le_refl _
      exact I1.fpOk hle (I1.hok.fresh hle)
    cases v with
    | tup items =>
      simp only [VR] at rv
      obtain ⟨a, xs, rfl, hq, rs⟩ := rv
      cases r
      obtain ⟨its, rv, p', hz⟩ := I1.tuple hq
      refine PySem.gh_call_enumerate_tuple (show s1.heap.IsTuple a its.toArray from p') fun h' he hit hsz hk => wpAny_pyIter_enum he ?_
      have I2 : Inv X pins σ H1 { s1 with heap := h' } := I1.kept (t' := s1.toks) hk
      exact ⟨s1.heap.objs.size + 1, [s1.heap.objs.size + 1, s1.heap.objs.size], _, _, H1, rfl, I2, turn_enumT a (s1.heap.objs.size + 1) s1.heap.objs.size, ⟨⟨.none, he⟩, hit, Nat.succ_ne_self _⟩, fp,
        A1.2 g1 H1 _ Ext.refl R1 (by simp only [enumL, List.length_mapIdx, rs.length]; exact hz) (serves_pairs R1 walk_enumT (fun g H E => sqT_ext R1 E hq) rs)⟩
    | lst items =>
      simp only [VR] at rv
      obtain ⟨a, xs, rfl, na, hq, rs⟩ := rv
      cases r
      obtain ⟨its, rv, p', hz⟩ := I1.list (SqL.of hq)
      refine call_enumerate_list p'.isList fun h' he hit hsz hk => wpAny_pyIter_enum he ?_
      have I2 : Inv X pins σ H1 { s1 with heap := h' } := I1.kept (t' := s1.toks) hk
      exact ⟨s1.heap.objs.size + 1, [s1.heap.objs.size + 1, s1.heap.objs.size], _, _, H1, rfl, I2, turn_enum a (s1.heap.objs.size + 1) s1.heap.objs.size, ⟨⟨.none, he⟩, hit, Nat.succ_ne_self _⟩, fp,
        A1.2 g1 H1 _ Ext.refl R1 (by simp only [enumL, List.length_mapIdx, rs.length]; exact hz) (serves_pairs R1 walk_enum (fun g H E => sqL_ext R1 E (fun z => na (.inl z)) (SqL.of hq)) rs)⟩
    | fz items =>
      simp only [VR] at rv
      obtain ⟨a, xs, rfl, hq, rs⟩ := rv
      cases r
      obtain ⟨its, rv, p', hz⟩ := I1.list hq.sq
      refine call_enumerate_list p'.isList fun h' he hit hsz hk => wpAny_pyIter_enum he ?_
      have I2 : Inv X pins σ H1 { s1 with heap := h' } := I1.kept (t' := s1.toks) hk
      exact ⟨s1.heap.objs.size + 1, [s1.heap.objs.size + 1, s1.heap.objs.size], _, _, H1, rfl, I2, turn_enum a (s1.heap.objs.size + 1) s1.heap.objs.size, ⟨⟨.none, he⟩, hit, Nat.succ_ne_self _⟩, fp,
        A1.2 g1 H1 _ Ext.refl R1 (by simp only [enumL, List.length_mapIdx, rs.length]; exact hz) (serves_pairs R1 walk_enum (fun g H E => (hq.imp fun o s => E.keep _ _ s fun ha => by
          rcases R1.kind ha with ⟨_, q⟩ | ⟨_, q⟩ | ⟨_, _, _, q⟩ <;> rw [q] at s <;> cases s).sq) rs)⟩
    | _ => exact A1.elim
end
/-! ### a, b = x, y -/
section
variable {X : Cx} {W : WX}
def sPar (i j : Nat) (d : DenG (List Val)) : Stm := fun l h => (d l h).to l fun vs h1 => match vs with
  | [v, w] => .nx ((l.set i (some v)).set j (some w)) h1
  | _ => .fail
theorem gs_par (i j : Nat) {x y : Str} {a b : Expr} {d : DenG (List Val)} {px py pt pos : Pos} {kt k2 pt2} (hc : X.calm = true) (hN : X.N.Nodup) (ha : GA X W [a, b] d) (hi : X.N[i]? = some x := by rfl) (hj : X.N[j]? = some y := by rfl) (hij : i ≠ j := by decide)
    (hx : X.env.scope.names.lookup x = some .local := by rfl) (hy : X.env.scope.names.lookup y = some .local := by rfl)
    (hw : swappedStores [.Tuple [.Name x px, .Name y py] kt pt] (.Tuple [a, b] k2 pt2) X.env = pure (some [x, y]) := by rfl)
    (hs : swapsWithSole [.Tuple [.Name x px, .Name y py] kt pt] (.Tuple [a, b] k2 pt2) pos.line X.env = pure false := by rfl) :
    GS X W (.Assign [.Tuple [.Name x px, .Name y py] kt pt] (.Tuple [a, b] k2 pt2) pos) (sPar i j d) := by
  refine PS.imp (ps_par hc hN hi hj hij hx hy ha hw hs) fun D σ H ⟨g, l, h, S, R, A⟩ => ?_
  refine tG_to S R A fun vs h1 g1 H1 xs E S1 R1 r1 A1 => ?_
  split at A1
  · rename_i v w
    have r1 : VRs X.K g1 H1 [v, w] xs := r1
    simp only [VRs] at r1
    obtain ⟨x1, _, rfl, rx, x2, _, rfl, ry, rfl⟩ := r1
    exact ⟨x1, x2, rfl, A1 g1 H1 _ Ext.refl R1 ((S1.set i rx).set j ry)⟩
  · exact A1.elim
end
end GH

set_option Elab.async false
set_option linter.all false
set_option autoImplicit false
namespace GH
open PySem PySem.Spec PyProof.Rows L2
def CXA (P : Program) : CXT := fun outer H s E u s' => ∃ w, L2.CX P w outer H s E u s'
theorem cxa_none {P : Program} (H : Hp) (s : Shared) (e : Value) (s' : Shared) (h : CXA P [] H s (fun _ _ _ => False) e s') : False := by
  obtain ⟨w, h⟩ := h
  obtain ⟨_, _, _, _, _, _, _, _, _, _, _, _, z⟩ := h
  exact z
theorem fn_cxa {P : Program} {w : World} {K : PySem.W.Frag} {mg : Str → Option Value} {base : Heap} {k : Nat} {f : Addr} {fd : FuncData} {ps : List Str} {sp : Sp} (F : FnOk P w K mg base (L2.CX P w) k f fd ps sp) : FnOk P w K mg base (CXA P) k f fd ps sp :=
  ⟨F.len, fun A outer s H args us vs Q E hr he hb hv hs => PySem.codeAny_mono (F.run A outer s H args us vs Q E hr he hb hv hs) fun r s' c => by
    unfold CR at c ⊢
    split at c
    · exact c
    · exact c
    · exact ⟨w, c⟩⟩
theorem glo_of {K : PySem.W.Frag} {mg : Str → Option Value} {base : Heap} (X : K.In base) (G : base.Ns mainGlobals mg) {x : Str} (c : (He.Fa.glo x).ok K = true) : mg x = some (.ref (He.ga K x)) := He.glo_ok X G c
end GH

set_option Elab.async false
set_option linter.all false
set_option maxRecDepth 100000
set_option maxHeartbeats 1000000
set_option autoImplicit false
/-! Plain reasoning about the functions. -/
namespace GH
open PySem
/-! ### what holds behind -/
def ok {α : Type} (r : Res α) (P : α → Hv → Prop) : Prop := match r with
  | .ok v h => P v h
  | _ => False
@[simp] theorem ok_ok {α : Type} (v : α) (h : Hv) (P : α → Hv → Prop) : ok (.ok v h) P = P v h := rfl
@[simp] theorem ok_fail {α : Type} (P : α → Hv → Prop) : ok (.fail : Res α) P = False := rfl
@[simp] theorem ok_exc {α : Type} (e : Ex) (h : Hv) (P : α → Hv → Prop) : ok (.exc e h : Res α) P = False := rfl
@[simp] theorem ok_bind {α β : Type} (r : Res α) (k : α → Hv → Res β) (P : β → Hv → Prop) : ok (r.bind k) P = ok r fun v h => ok (k v h) P := by
  cases r <;> rfl
theorem ok_imp {α : Type} {r : Res α} {P Q : α → Hv → Prop} (h : ok r P) (i : ∀ v h, P v h → Q v h) : ok r Q := by
  cases r with
  | ok v h1 => exact i _ _ h
  | exc e h1 => exact h
  | fail => exact h
theorem ok_eq {α : Type} {r : Res α} {P : α → Hv → Prop} (h : ok r P) : ∃ v h', r = .ok v h' ∧ P v h' := by
  cases r with
  | ok v h1 => exact ⟨v, h1, rfl, h⟩
  | exc e h1 => exact h.elim
  | fail => exact h.elim
theorem ok_ite {α : Type} {c : Prop} [Decidable c] {a b : Res α} {P : α → Hv → Prop} : ok (if c then a else b) P ↔ (c → ok a P) ∧ (¬c → ok b P) := by
  by_cases h : c <;> simp [h]
structure Post where
  nx : Loc → Hv → Prop := fun _ _ => False
  rt : Val → Hv → Prop := fun _ _ => False
  bk : Loc → Hv → Prop := fun _ _ => False
  ct : Loc → Hv → Prop := fun _ _ => False
def sok (r : SRes) (P : Post) : Prop := match r with
  | .nx l h => P.nx l h
  | .rt v h => P.rt v h
  | .bk l h => P.bk l h
  | .ct l h => P.ct l h
  | _ => False
@[simp] theorem sok_nx (l : Loc) (h : Hv) (P : Post) : sok (.nx l h) P = P.nx l h := rfl
@[simp] theorem sok_rt (v : Val) (h : Hv) (P : Post) : sok (.rt v h) P = P.rt v h := rfl
@[simp] theorem sok_bk (l : Loc) (h : Hv) (P : Post) : sok (.bk l h) P = P.bk l h := rfl
@[simp] theorem sok_ct (l : Loc) (h : Hv) (P : Post) : sok (.ct l h) P = P.ct l h := rfl
@[simp] theorem sok_fail (P : Post) : sok .fail P = False := rfl
@[simp] theorem sok_exc (e : Ex) (l : Loc) (h : Hv) (P : Post) : sok (.exc e l h) P = False := rfl
@[simp] theorem sok_to {α : Type} (r : Res α) (l : Loc) (k : α → Hv → SRes) (P : Post) : sok (r.to l k) P = ok r fun v h => sok (k v h) P := by
  cases r <;> rfl
@[simp] theorem sok_then (r : SRes) (k : Stm) (P : Post) : sok (r.andThen k) P = sok r { P with nx := fun l h => sok (k l h) P } := by
  cases r <;> rfl
@[simp] theorem sok_turn (r : SRes) (k : Stm) (P : Post) : sok (r.turn k) P = sok r { P with nx := fun l h => sok (k l h) P, ct := fun l h => sok (k l h) P, bk := P.nx } := by
  cases r <;> rfl
theorem sok_ite {c : Prop} [Decidable c] {a b : SRes} {P : Post} : sok (if c then a else b) P ↔ (c → sok a P) ∧ (¬c → sok b P) := by
  by_cases h : c <;> simp [h]
theorem sok_imp {r : SRes} {P Q : Post} (h : sok r P) (n : ∀ l h, P.nx l h → Q.nx l h) (t : ∀ v h, P.rt v h → Q.rt v h) (b : ∀ l h, P.bk l h → Q.bk l h) (c : ∀ l h, P.ct l h → Q.ct l h) : sok r Q := by
  cases r with
  | nx l h1 => exact n _ _ h
  | rt v h1 => exact t _ _ h
  | bk l h1 => exact b _ _ h
  | ct l h1 => exact c _ _ h
  | exc e l h1 => exact h.elim
  | fail => exact h.elim
@[simp] theorem ok_run (n : Nat) (b : Stm) (args : List Val) (h : Hv) (P : Val → Hv → Prop) : ok (runDef n b args h) P = sok (b (args.map some ++ List.replicate (n - args.length) none) h) { nx := fun _ h => P .non h, rt := P } := by
  unfold runDef
  cases b (args.map some ++ List.replicate (n - args.length) none) h <;> rfl
def tok (r : TRes) (P : Loc → Hv → Prop) : Prop := match r with
  | .ok l h => P l h
  | _ => False
@[simp] theorem sok_s (r : TRes) (P : Post) : sok r.s P = tok r P.nx := by cases r <;> rfl
@[simp] theorem tok_ok (l : Loc) (h : Hv) (P : Loc → Hv → Prop) : tok (.ok l h) P = P l h := rfl
@[simp] theorem tok_fail (P : Loc → Hv → Prop) : tok .fail P = False := rfl
@[simp] theorem tok_toT {α : Type} (r : Res α) (l : Loc) (k : α → Hv → TRes) (P : Loc → Hv → Prop) : tok (r.toT l k) P = ok r fun v h => tok (k v h) P := by cases r <;> rfl
@[simp] theorem tok_bind (r : TRes) (k : Loc → Hv → TRes) (P : Loc → Hv → Prop) : tok (r.bind k) P = tok r fun l h => tok (k l h) P := by cases r <;> rfl

/-! ### the combinators, read at a state -/
section
variable (l : Loc) (h : Hv)
@[simp] theorem e_seq (a b : Stm) : sSeq a b l h = (a l h).andThen b := rfl
@[simp] theorem e_next : sNext l h = .nx l h := rfl
@[simp] theorem e_ret (d : Den) : sRet d l h = (d l h).to l .rt := rfl
@[simp] theorem e_retN : sRetN l h = .rt .non h := rfl
@[simp] theorem e_expr (d : Den) : sExpr d l h = (d l h).to l fun _ h1 => .nx l h1 := rfl
@[simp] theorem e_if (c : DenG Bool) (a b : Stm) : sIf c a b l h = (c l h).to l fun t h1 => if t then a l h1 else b l h1 := rfl
@[simp] theorem e_break : sBreak l h = .bk l h := rfl
@[simp] theorem e_cont : sCont l h = .ct l h := rfl
@[simp] theorem e_asg (d : Den) (t : Tg) : sAsg d t l h = (d l h).to l fun v h1 => (t v l h1).s := rfl
@[simp] theorem e_name (i : Nat) (v : Val) : gName i v l h = .ok (l.set i (some v)) h := rfl
@[simp] theorem e_for (di : DenG Src) (t : Tg) (b : Stm) : sFor di t b l h = (di l h).to l fun s h1 => forL t b s s.1 l h1 := rfl
@[simp] theorem e_c (v : Val) : dC v l h = .ok v h := rfl
@[simp] theorem e_nil : dNil l h = .ok [] h := rfl
@[simp] theorem e_cons (d : Den) (r : DenG (List Val)) : dCons d r l h = (d l h).bind fun v h1 => (r l h1).bind fun vs h2 => .ok (v :: vs) h2 := rfl
@[simp] theorem e_tup (r : DenG (List Val)) : dTup r l h = (r l h).bind mkTup := rfl
@[simp] theorem e_lst (r : DenG (List Val)) : dLst r l h = (r l h).bind mkLst := rfl
@[simp] theorem e_lstM (r : DenG (List Val)) : dLstM r l h = (r l h).bind mkRef := rfl
@[simp] theorem e_bin (f : Val → Val → Hv → Res Val) (a b : Den) : dBin f a b l h = (a l h).bind fun v h1 => (b l h1).bind fun u h2 => f v u h2 := rfl
@[simp] theorem e_b (d : Den) : dB d l h = resB (d l h) := rfl
@[simp] theorem e_and (a b : DenG Bool) : dAnd a b l h = (a l h).bind fun c h1 => if c then b l h1 else .ok false h1 := rfl
@[simp] theorem e_or (a b : DenG Bool) : dOr a b l h = (a l h).bind fun c h1 => if c then .ok true h1 else b l h1 := rfl
@[simp] theorem e_not (a : DenG Bool) : dNot a l h = (a l h).bind fun c h1 => .ok (!c) h1 := rfl
@[simp] theorem e_dif (c : DenG Bool) (a b : Den) : dIf c a b l h = (c l h).bind fun t h1 => if t then a l h1 else b l h1 := rfl
@[simp] theorem e_call (D : DF) (r : DenG (List Val)) : dCall D r l h = (r l h).bind fun vs h1 => D vs h1 := rfl
@[simp] theorem e_fn (f : Val → Hv → Res Val) (d : Den) : dFn f d l h = (d l h).bind f := rfl
@[simp] theorem e_len (d : Den) : dLen d l h = (d l h).bind vLen := rfl
@[simp] theorem e_tru (d : Den) : dTru d l h = (d l h).bind vTru := rfl
@[simp] theorem e_iseq (d : Den) : iSeq d l h = (d l h).bind vIter := rfl
@[simp] theorem e_rng1 (d : Den) : iRange1 d l h = (d l h).bind vRange1 := rfl
@[simp] theorem e_rng2 (a b : Den) : iRange2 a b l h = (a l h).bind fun v h1 => (b l h1).bind fun u h2 => vRange2 v u h2 := rfl
@[simp] theorem e_enum (d : Den) : iEnumG d l h = (d l h).bind vEnum := rfl
@[simp] theorem e_yes : dYes l h = .ok true h := rfl
@[simp] theorem e_cut (d : Den) (lo hi : DO) : dCut d lo hi l h = (d l h).bind fun v h1 => (lo l h1).bind fun a h2 => (hi l h2).bind fun b h3 => vCut v a b h3 := rfl
@[simp] theorem e_onone : oNone l h = .ok none h := rfl
@[simp] theorem e_newd : dNewD l h = .ok (.ref h.length) (h ++ [.dic []]) := rfl
@[simp] theorem e_meth1 (p : Hv → Val → Bool) (f : Val → Val → Hv → Res Val) (o e : Den) : dMeth1 p f o e l h = (o l h).bind fun x h1 => if p h1 x = true then (e l h1).bind fun v h2 => f x v h2 else .fail := rfl
@[simp] theorem e_meth0 (p : Hv → Val → Bool) (f : Val → Hv → Res Val) (o : Den) : dMeth0 p f o l h = (o l h).bind fun x h1 => if p h1 x = true then f x h1 else .fail := rfl
@[simp] theorem e_sub (o i : Den) (v : Val) : gSub o i v l h = (o l h).toT l fun x h1 => (i l h1).toT l fun y h2 => match vSet x y v h2 with
  | some h3 => .ok l h3
  | none => .fail := rfl
end
/-- one statement, what holds behind it, the rest -/
theorem sok_seq {a b : Stm} {l : Loc} {h : Hv} {P : Post} (R : Loc → Hv → Prop) (h1 : sok (a l h) { P with nx := R }) (h2 : ∀ l h, R l h → sok (b l h) P) : sok (sSeq a b l h) P := by
  rw [e_seq, sok_then]
  exact sok_imp h1 (fun l h r => h2 l h r) (fun _ _ z => z) (fun _ _ z => z) (fun _ _ z => z)
theorem ok_resB {r : Res Val} {P : Bool → Hv → Prop} (k : ok r fun v h => ∃ b, v = .bl b ∧ P b h) : ok (resB r) P := by
  cases r with
  | ok v h =>
    obtain ⟨b, rfl, p⟩ := k
    exact p
  | exc e h => exact k.elim
  | fail => exact k.elim
@[simp] theorem resB_bl (b : Bool) (h : Hv) : resB (.ok (.bl b) h) = .ok b h := rfl
@[simp] theorem vTru_bl (b : Bool) (h : Hv) : vTru (.bl b) h = .ok b h := rfl
@[simp] theorem ok_resB_eq {r : Res Val} {P : Bool → Hv → Prop} : ok (resB r) P = ok r fun v h => match v with
  | .bl b => P b h
  | _ => False := by
  cases r with
  | ok v h => cases v <;> rfl
  | exc e h => rfl
  | fail => rfl
/-- a loop over items, an invariant over what is left -/
theorem forL_inv {t : Tg} {b : Stm} {s : Src} {P : Post} (I : List Val → Loc → Hv → Prop)
    (step : ∀ x r l h, I (x :: r) l h → srcOk s h ∧ tok (t x l h) fun l1 h1 => sok (b l1 h1) { nx := fun l2 h2 => I r l2 h2, ct := fun l2 h2 => I r l2 h2, bk := P.nx, rt := P.rt })
    (done : ∀ l h, I [] l h → srcOk s h ∧ P.nx l h) : ∀ (items : List Val) (l : Loc) (h : Hv), I items l h → sok (forL t b s items l h) P
  | [], l, h, i => by
    obtain ⟨a, q⟩ := done l h i
    simp only [forL, if_pos a, sok_nx]
    exact q
  | x :: r, l, h, i => by
    obtain ⟨a, q⟩ := step x r l h i
    simp only [forL, if_pos a]
    cases e : t x l h with
    | ok l1 h1 =>
      rw [e] at q
      simp only [tok_ok] at q
      simp only [sok_turn]
      exact sok_imp q (fun l2 h2 i2 => forL_inv I step done r l2 h2 i2) (fun _ _ z => z) (fun _ _ z => z) (fun l2 h2 i2 => forL_inv I step done r l2 h2 i2)
    | exc x1 l1 h1 => rw [e] at q; exact q.elim
    | fail => rw [e] at q; exact q.elim
/-- a comprehension's items, an invariant -/
theorem lcL_inv {t : Tg} {c : DenG Bool} {e : Den} {s : Src} {P : List Val → Hv → Prop} (I : List Val → List Val → Hv → Prop) {l : Loc}
    (step : ∀ x r acc h, I (x :: r) acc h → srcOk s h ∧ tok (t x l h) fun l1 h1 => ok (c l1 h1) fun b h2 => if b then ok (e l1 h2) fun v h3 => I r (acc ++ [v]) h3 else I r acc h2)
    (done : ∀ acc h, I [] acc h → srcOk s h ∧ P acc h) : ∀ (items acc : List Val) (h : Hv), I items acc h → ok (lcL t c e s items acc l h) P
  | [], acc, h, i => by
    obtain ⟨a, q⟩ := done acc h i
    simp only [lcL, if_pos a, ok_ok]
    exact q
  | x :: r, acc, h, i => by
    obtain ⟨a, q⟩ := step x r acc h i
    simp only [lcL, if_pos a]
    cases et : t x l h with
    | ok l1 h1 =>
      rw [et] at q
      simp only [tok_ok] at q
      dsimp only
      cases ec : c l1 h1 with
      | ok b h2 =>
        rw [ec] at q
        simp only [ok_ok] at q
        dsimp only
        cases b with
        | true =>
          simp only [if_true] at q ⊢
          cases ee : e l1 h2 with
          | ok v h3 =>
            rw [ee] at q
            exact lcL_inv I step done r (acc ++ [v]) h3 q
          | exc x1 h3 => rw [ee] at q; exact q.elim
          | fail => rw [ee] at q; exact q.elim
        | false => exact lcL_inv I step done r acc h2 (by simpa using q)
      | exc x1 h2 => rw [ec] at q; exact q.elim
      | fail => rw [ec] at q; exact q.elim
    | exc x1 l1 h1 => rw [et] at q; exact q.elim
    | fail => rw [et] at q; exact q.elim
@[simp] theorem ok_dLc {fin : List Val → Hv → Res Val} {vs : List Nat} {di : DenG Src} {t : Tg} {c : DenG Bool} {e : Den} {l : Loc} {h : Hv} {P : Val → Hv → Prop} :
    ok (dLc fin vs di t c e l h) P = ok (di l h) fun s h1 => ok (lcL t c e s s.1 [] (wipeL l vs) h1) fun ys h2 => ok (fin ys h2) P := by
  simp only [dLc, ok_bind]
@[simp] theorem ok_frozen (ys : List Val) (h : Hv) (P : Val → Hv → Prop) : ok (frozen ys h) P = P (.lst ys) h := rfl
@[simp] theorem ok_ours (ys : List Val) (h : Hv) (P : Val → Hv → Prop) : ok (ours ys h) P = P (.ref h.length) (h ++ [.lst ys]) := rfl
/-- a comprehension that draws nothing: map and filter -/
theorem lc_pure {t : Tg} {c : DenG Bool} {e : Den} {s : Src} {l : Loc} {h : Hv} {P : List Val → Hv → Prop} (f : Val → Bool) (g : Val → Val) (hs : srcOk s h)
    (step : ∀ x ∈ s.1, tok (t x l h) fun l1 h1 => h1 = h ∧ c l1 h = .ok (f x) h ∧ (f x = true → e l1 h = .ok (g x) h)) (done : P ((s.1.filter f).map g) h) : ok (lcL t c e s s.1 [] l h) P := by
  have gen : ∀ (items acc : List Val), (∀ x ∈ items, x ∈ s.1) → ok (lcL t c e s items acc l h) fun ys h2 => h2 = h ∧ ys = acc ++ (items.filter f).map g := by
    intro items
    induction items with
    | nil => intro acc _; simp only [lcL, if_pos hs, ok_ok]; simp
    | cons x r ih =>
      intro acc hm
      have q := step x (hm x (List.mem_cons_self ..))
      simp only [lcL, if_pos hs]
      cases et : t x l h with
      | ok l1 h1 =>
        rw [et] at q
        obtain ⟨rfl, q1, q2⟩ := q
        dsimp only
        rw [q1]
        dsimp only
        cases ef : f x with
        | true =>
          simp only [if_true]
          rw [q2 ef]
          dsimp only
          refine ok_imp (ih (acc ++ [g x]) fun y hy => hm y (List.mem_cons_of_mem _ hy)) fun v h2 z => ⟨z.1, ?_⟩
          rw [z.2]; simp [ef]
        | false =>
          refine ok_imp (ih acc fun y hy => hm y (List.mem_cons_of_mem _ hy)) fun v h2 z => ⟨z.1, ?_⟩
          rw [z.2]; simp [ef]
      | exc x1 l1 h1 => rw [et] at q; exact q.elim
      | fail => rw [et] at q; exact q.elim
  refine ok_imp (gen s.1 [] fun x hx => hx) fun v h2 z => ?_
  obtain ⟨rfl, rfl⟩ := z
  simpa using done

/-! ### tidy -/
theorem frzs_self {f : Nat → Option Val} : ∀ {v : Val}, okV v = true → frz f v = some v := by
  intro v
  exact Val.rec (motive_1 := fun v => okV v = true → frz f v = some v) (motive_2 := fun l => okVs l = true → frzs f l = some l)
    (fun _ => rfl) (fun _ _ => rfl) (fun _ _ => rfl) (fun _ _ => rfl)
    (fun l ih o => by simp only [okV] at o; simp only [frz, ih o, Option.map_some])
    (fun l ih o => by simp only [okV] at o; simp only [frz, ih o, Option.map_some])
    (fun l ih o => by simp only [okV] at o; simp only [frz, ih o, Option.map_some])
    (fun i o => by cases o)
    (fun _ => rfl) (fun v l i1 i2 o => by
      simp only [okVs, Bool.and_eq_true] at o
      simp only [frzs, i1 o.1, i2 o.2, Option.bind_some, Option.map_some]) v
theorem frzs_list {f : Nat → Option Val} : ∀ {l : List Val}, okVs l = true → frzs f l = some l
  | [], _ => rfl
  | v :: l, o => by
    simp only [okVs, Bool.and_eq_true] at o
    simp only [frzs, frzs_self o.1, frzs_list o.2, Option.bind_some, Option.map_some]
theorem kept_app (h g : Hv) : kept h.length h (h ++ g) := ⟨by simp, fun i hi => .inl (List.getElem?_append_left hi)⟩
theorem tidy_app {r : Res Val} {h : Hv} {P : Val → Hv → Prop} (k : ok r fun v h' => (∃ g, h' = h ++ g) ∧ okV v = true ∧ P v h) : ok (tidy r h) P := by
  obtain ⟨v, h', rfl, ⟨g, rfl⟩, o, p⟩ := ok_eq k
  unfold tidy
  dsimp only
  rw [if_pos (kept_app h g), frzs_self o]
  simpa using p
theorem tidy_lst {r : Res Val} {h : Hv} {P : Val → Hv → Prop} (k : ok r fun v h' => ∃ g i l, h' = h ++ g ∧ v = .ref i ∧ h.length ≤ i ∧ h'[i]? = some (.lst l) ∧ okVs l = true ∧ P (.lst l) h) : ok (tidy r h) P := by
  obtain ⟨v, h', rfl, g, i, l, rfl, rfl, hi, hl, o, p⟩ := ok_eq k
  unfold tidy
  dsimp only
  rw [if_pos (kept_app h g)]
  have : frz (frzN (h ++ g) h.length (h ++ g).length) (.ref i) = some (.lst l) := by
    have hn : (h ++ g).length = ((h ++ g).length - 1) + 1 := by
      have := (List.getElem?_eq_some_iff.mp hl).1
      omega
    rw [hn]
    simp only [frz, frzN]
    rw [if_neg (by omega), hl]
    simp only [frzs_list o, Option.map_some]
  rw [this]
  simpa using p
end GH

set_option Elab.async false
set_option linter.all false
set_option maxRecDepth 100000
set_option maxHeartbeats 1000000
set_option autoImplicit false
/-! Values compared; the tape. -/
namespace GH
open PySem
theorem nrfl {α : Type} {a b : α} (h : a = b) : a = b := h
abbrev sv (s : List Nat) : Val := .str s
/-- a tuple of ints -/
abbrev pv (p : List Int) : Val := .tup (p.map .int)
theorem okVs_ints (p : List Int) : okVs (p.map .int) = true := by
  induction p with
  | nil => rfl
  | cons a p ih => simp only [List.map_cons, okVs, okV, ih, Bool.and_self]
theorem dpVs_ints (p : List Int) : dpVs (p.map .int) = 0 := by
  induction p with
  | nil => rfl
  | cons a p ih => simp only [List.map_cons, dpVs, dpV, ih]; rfl
@[simp] theorem okV_pv (p : List Int) : okV (pv p) = true := by simp only [okV, okVs_ints]
@[simp] theorem dpV_pv (p : List Int) : dpV (pv p) = 1 := by simp only [dpV, dpVs_ints]
theorem eqv_ints : ∀ p q : List Int, PyData.eqvAll (pds (p.map .int)) (pds (q.map .int)) = decide (p = q)
  | [], [] => rfl
  | [], _ :: _ => rfl
  | _ :: _, [] => rfl
  | a :: p, b :: q => by
    simp only [List.map_cons, pds, pd, PyData.eqvAll, PyData.eqv, eqv_ints p q]
    by_cases h1 : a = b <;> by_cases h2 : p = q <;> simp [h1, h2]
@[simp] theorem veq_pv (p q : List Int) : veq (pv p) (pv q) = decide (p = q) := by
  simp only [veq, pd, PyData.eqv, eqv_ints]
@[simp] theorem veq_str (a b : List Nat) : veq (.str a) (.str b) = decide (a = b) := by
  simp only [veq, pd, PyData.eqv]
  by_cases h : a = b
  · subst h; simp
  · have : sOf a ≠ sOf b := fun e => h (sOf_inj e)
    simp [h, this]
@[simp] theorem veq_int (a b : Int) : veq (.int a) (.int b) = decide (a = b) := by
  simp only [veq, pd, PyData.eqv]
  by_cases h : a = b <;> simp [h]
@[simp] theorem veq_bl (a b : Bool) : veq (.bl a) (.bl b) = decide (a = b) := by
  simp only [veq, pd, PyData.eqv]
  cases a <;> cases b <;> rfl
theorem okVs_pvs (s : List (List Int)) : okVs (s.map pv) = true := by
  induction s with
  | nil => rfl
  | cons a p ih => simp only [List.map_cons, okVs, okV_pv, ih, Bool.and_self]
theorem dpVs_pvs (s : List (List Int)) : dpVs (s.map pv) ≤ 1 := by
  induction s with
  | nil => exact Nat.zero_le _
  | cons a p ih => simp only [List.map_cons, dpVs, dpV_pv]; omega
/-- a tuple, a list of tuples of ints -/
abbrev tv (s : List (List Int)) : Val := .tup (s.map pv)
theorem okVs_append {a b : List Val} : okVs (a ++ b) = (okVs a && okVs b) := by
  induction a with
  | nil => simp [okVs]
  | cons x a ih => simp only [List.cons_append, okVs, ih, Bool.and_assoc]
@[simp] theorem okV_tv (s : List (List Int)) : okV (tv s) = true := by simp only [okV, okVs_pvs]
theorem inSeq_pv (p : List Int) (s : List (List Int)) : inSeq (pv p) (s.map pv) = decide (p ∈ s) := by
  unfold inSeq
  induction s with
  | nil => rfl
  | cons a s ih =>
    simp only [List.map_cons, List.any_cons, ih, veq_pv]
    by_cases h1 : a = p <;> by_cases h2 : p ∈ s <;> simp [h1, h2, eq_comm]
    intro e; exact absurd e.symm h1
theorem inOk_pv (p : List Int) (s : List (List Int)) : inOk (pv p) (s.map pv) = true := by
  have := dpVs_pvs s
  simp only [inOk, okV_pv, okVs_pvs, Bool.and_self, Bool.true_and, decide_eq_true_eq]
  omega
@[simp] theorem vIn_pv (p : List Int) (s : List (List Int)) (h : Hv) : vIn (pv p) (tv s) h = .ok (.bl (decide (p ∈ s))) h := by
  simp only [vIn, isIn, seqOf, thaw, inOk_pv, if_true, inSeq_pv, Res.bind_ok]
@[simp] theorem vNotIn_pv (p : List Int) (s : List (List Int)) (h : Hv) : vNotIn (pv p) (tv s) h = .ok (.bl (!decide (p ∈ s))) h := by
  simp only [vNotIn, isIn, seqOf, thaw, inOk_pv, if_true, inSeq_pv, Res.bind_ok]
@[simp] theorem vEq_pv (p q : List Int) (h : Hv) : vEq (pv p) (pv q) h = .ok (.bl (decide (p = q))) h := by
  simp [vEq, thaw, eqOk]
@[simp] theorem vEq_str (a b : List Nat) (h : Hv) : vEq (.str a) (.str b) h = .ok (.bl (decide (a = b))) h := nrfl rfl
@[simp] theorem vEq_int (a b : Int) (h : Hv) : vEq (.int a) (.int b) h = .ok (.bl (decide (a = b))) h := nrfl rfl
@[simp] theorem vEq_bl (a b : Bool) (h : Hv) : vEq (.bl a) (.bl b) h = .ok (.bl (decide (a = b))) h := by
  simp [vEq, thaw, eqOk, okV, dpV]
@[simp] theorem vAdd_int (a b : Int) (h : Hv) : vAdd (.int a) (.int b) h = .ok (.int (a + b)) h := nrfl rfl
@[simp] theorem vSub_int (a b : Int) (h : Hv) : vSub (.int a) (.int b) h = .ok (.int (a - b)) h := nrfl rfl
@[simp] theorem vLt_int (a b : Int) (h : Hv) : vLt (.int a) (.int b) h = .ok (.bl (decide (a < b))) h := nrfl rfl
@[simp] theorem vGt_int (a b : Int) (h : Hv) : vGt (.int a) (.int b) h = .ok (.bl (decide (b < a))) h := nrfl rfl
@[simp] theorem vLe_int (a b : Int) (h : Hv) : vLe (.int a) (.int b) h = .ok (.bl (decide (a ≤ b))) h := nrfl rfl
@[simp] theorem vGe_int (a b : Int) (h : Hv) : vGe (.int a) (.int b) h = .ok (.bl (decide (b ≤ a))) h := nrfl rfl
@[simp] theorem vInt_int (a : Int) (h : Hv) : vInt (.int a) h = .ok (.int a) h := nrfl rfl
@[simp] theorem vAbs_int (a : Int) (h : Hv) : vAbs (.int a) h = .ok (.int (if a < 0 then -a else a)) h := nrfl rfl
@[simp] theorem vLen_tup (l : List Val) (h : Hv) : vLen (.tup l) h = .ok (.int l.length) h := nrfl rfl
@[simp] theorem vLen_lst (l : List Val) (h : Hv) : vLen (.lst l) h = .ok (.int l.length) h := nrfl rfl
@[simp] theorem vIter_lst (l : List Val) (h : Hv) : vIter (.lst l) h = .ok (l, none) h := nrfl rfl
@[simp] theorem vIter_tup (l : List Val) (h : Hv) : vIter (.tup l) h = .ok (l, none) h := nrfl rfl
@[simp] theorem vIter_fz (l : List Val) (h : Hv) : vIter (.fz l) h = .ok (l, none) h := nrfl rfl
@[simp] theorem srcOk_none (l : List Val) (h : Hv) : srcOk (l, none) h := trivial
theorem vMod_ok {a b : Int} (h : Hv) (hb : 0 < b) : vMod (.int a) (.int b) h = .ok (.int (a % b)) h := by simp [vMod, hb]
theorem vDiv_ok {a b : Int} (h : Hv) (hb : 0 < b) (h2 : b < 1073741824) : vDiv (.int a) (.int b) h = .ok (.int (a / b)) h := by simp [vDiv, hb, h2]
theorem vIx_tup {l : List Val} {i : Int} {v : Val} {h : Hv} (e : nth l i = some v) : vIx (.tup l) (.int i) h = .ok v h := by simp [vIx, seqOf, e]
theorem vIx_lst {l : List Val} {i : Int} {v : Val} {h : Hv} (e : nth l i = some v) : vIx (.lst l) (.int i) h = .ok v h := by simp [vIx, seqOf, lstOf, e]
theorem vIx_dic {i : Nat} {d : List (Val × Val)} {s : List Nat} {v : Val} {h : Hv} (e : h[i]? = some (.dic d)) (g : dGet d (.str s) = some v) : vIx (.ref i) (.str s) h = .ok v h := by
  simp [vIx, seqOf, lstOf, dicOf, e, keyOf, g]
theorem nth_of {α : Type} {l : List α} {i : Int} (h0 : 0 ≤ i) (h1 : i < l.length) : ∃ v, nth l i = some v ∧ v ∈ l := by
  have hi : i.toNat < l.length := by omega
  exact ⟨l[i.toNat], by simp [nth, h0, hi], List.getElem_mem hi⟩

/-! ### the tape -/
structure Tape where
  cells : List Int
  at_ : Int
  left : Int
  seed : Int
  salt : Int
def kCells : List Nat := [99, 101, 108, 108, 115]
def Tape.dic (t : Tape) : List (Val × Val) := [(.str [99, 101, 108, 108, 115], .lst (t.cells.map .int)), (.str [97, 116], .int t.at_), (.str [108, 101, 102, 116], .int t.left), (.str [115, 101, 101, 100], .int t.seed), (.str [115, 97, 108, 116], .int t.salt)]
/-- a tape as an object -/
def TapeOb (o : Ob) : Prop := ∃ t : Tape, 0 ≤ t.at_ ∧ o = .dic t.dic
noncomputable def bTake : Stm := (sSeq (sIf (dAnd (dB (dBin vEq (dBin vIx (dVar 0) (dC (.str [108, 101, 102, 116]))) (dC (.int 0)))) (dB (dBin vLt (dBin vIx (dVar 0) (dC (.str [97, 116]))) (dLen (dBin vIx (dVar 0) (dC (.str [99, 101, 108, 108, 115]))))))) (sSeq (sAsg (dBin vIx (dBin vIx (dVar 0) (dC (.str [99, 101, 108, 108, 115]))) (dBin vIx (dVar 0) (dC (.str [97, 116])))) (gSub (dVar 0) (dC (.str [108, 101, 102, 116]))))
    (sSeq (sAsg (dBin vAdd (dBin vIx (dVar 0) (dC (.str [97, 116]))) (dC (.int 1))) (gSub (dVar 0) (dC (.str [97, 116]))))
    sNext)) sNext)
    (sSeq (sIf (dB (dBin vGt (dBin vIx (dVar 0) (dC (.str [108, 101, 102, 116]))) (dC (.int 0)))) (sSeq (sAsg (dBin vMod (dFn vInt (dBin vIx (dVar 0) (dC (.str [108, 101, 102, 116])))) (dVar 1)) (gName 3))
    (sSeq (sAsg (dBin vDiv (dBin vIx (dVar 0) (dC (.str [108, 101, 102, 116]))) (dVar 1)) (gSub (dVar 0) (dC (.str [108, 101, 102, 116]))))
    (sSeq (sRet (dVar 3))
    sNext))) sNext)
    (sSeq (sAsg (dBin vAdd (dBin vIx (dVar 0) (dC (.str [115, 97, 108, 116]))) (dC (.int 1))) (gSub (dVar 0) (dC (.str [115, 97, 108, 116]))))
    (sSeq (sAsg (dBin vMod (dFn vInt (dBin vAdd (dBin vMul (dBin vIx (dVar 0) (dC (.str [115, 101, 101, 100]))) (dC (.int 48271))) (dBin vMul (dBin vIx (dVar 0) (dC (.str [115, 97, 108, 116]))) (dC (.int 69621))))) (dC (.int 2147483647))) (gName 2))
    (sSeq (sAsg (dBin vMod (dFn vInt (dBin vAdd (dBin vAdd (dBin vMul (dVar 2) (dVar 2)) (dBin vMul (dBin vIx (dVar 0) (dC (.str [115, 97, 108, 116]))) (dC (.int 40692)))) (dC (.int 12345)))) (dC (.int 2147483399))) (gName 2))
    (sSeq (sRet (dBin vMod (dFn vInt (dVar 2)) (dVar 1)))
    sNext))))))
noncomputable def bTape : Stm := (sSeq (sAsg (dLc frozen [3] (iSeq (dVar 0)) (gName 3) dYes (dFn vAbs (dFn vInt (dVar 3)))) (gName 1))
    (sSeq (sAsg (dC (.int 7)) (gName 2))
    (sSeq (sFor (iSeq (dVar 1)) (gName 3) (sSeq (sAsg (dBin vMod (dFn vInt (dBin vAdd (dBin vMul (dVar 2) (dC (.int 31))) (dVar 3))) (dC (.int 2147483647))) (gName 2))
    sNext))
    (sSeq (sRet (dDisp (((dC (.str [99, 101, 108, 108, 115])), (dVar 1)) :: (((dC (.str [97, 116])), (dC (.int 0))) :: (((dC (.str [108, 101, 102, 116])), (dC (.int 0))) :: (((dC (.str [115, 101, 101, 100])), (dVar 2)) :: (((dC (.str [115, 97, 108, 116])), (dC (.int 0))) :: [])))))))
    sNext))))
section
variable (t : Tape) (g : Hv)
@[simp] theorem tp_cells : vIx (.ref 0) (.str [99, 101, 108, 108, 115]) (.dic t.dic :: g) = .ok (.lst (t.cells.map .int)) (.dic t.dic :: g) := nrfl rfl
@[simp] theorem tp_at : vIx (.ref 0) (.str [97, 116]) (.dic t.dic :: g) = .ok (.int t.at_) (.dic t.dic :: g) := nrfl rfl
@[simp] theorem tp_left : vIx (.ref 0) (.str [108, 101, 102, 116]) (.dic t.dic :: g) = .ok (.int t.left) (.dic t.dic :: g) := nrfl rfl
@[simp] theorem tp_seed : vIx (.ref 0) (.str [115, 101, 101, 100]) (.dic t.dic :: g) = .ok (.int t.seed) (.dic t.dic :: g) := nrfl rfl
@[simp] theorem tp_salt : vIx (.ref 0) (.str [115, 97, 108, 116]) (.dic t.dic :: g) = .ok (.int t.salt) (.dic t.dic :: g) := nrfl rfl
@[simp] theorem ts_at (i : Int) : vSet (.ref 0) (.str [97, 116]) (.int i) (.dic t.dic :: g) = some (.dic { t with at_ := i }.dic :: g) := nrfl rfl
@[simp] theorem ts_left (i : Int) : vSet (.ref 0) (.str [108, 101, 102, 116]) (.int i) (.dic t.dic :: g) = some (.dic { t with left := i }.dic :: g) := nrfl rfl
@[simp] theorem ts_salt (i : Int) : vSet (.ref 0) (.str [115, 97, 108, 116]) (.int i) (.dic t.dic :: g) = some (.dic { t with salt := i }.dic :: g) := nrfl rfl
end
theorem big_of {a : Int} (h1 : -18446744073709551616 < a) (h2 : a < 18446744073709551616) : big64 a = true := by
  unfold big64
  have e : (2 : Int) ^ 64 = 18446744073709551616 := by decide
  rw [e]
  simp [h1, h2]
theorem big_mod (x : Int) : big64 (x % 2147483647) = true := by
  have q1 := Int.emod_nonneg x (show (2147483647 : Int) ≠ 0 by omega)
  have q2 := Int.emod_lt_of_pos x (show (0 : Int) < 2147483647 by omega)
  exact big_of (by omega) (by omega)
theorem big_a : big64 48271 = true := big_of (by omega) (by omega)
theorem big_b : big64 69621 = true := big_of (by omega) (by omega)
theorem big_c : big64 40692 = true := big_of (by omega) (by omega)
theorem big_d : big64 31 = true := big_of (by omega) (by omega)
theorem vMul_ok {a b : Int} (h : Hv) (hb : big64 a = true ∨ big64 b = true) : vMul (.int a) (.int b) h = .ok (.int (a * b)) h := by
  have : (big64 a || big64 b) = true := by simpa using hb
  simp [vMul, this]
theorem p1 : (0 : Int) < 2147483647 := by omega
theorem p2 : (0 : Int) < 2147483399 := by omega
theorem take_key {m : Int} {g : Hv} {P : Val → Hv → Prop} (hm : 0 < m) (hm2 : m < 1073741824) (k : ∀ r o', 0 ≤ r → r < m → TapeOb o' → P (.int r) (o' :: g)) (t : Tape) (ht : 0 ≤ t.at_) : sok ((sSeq (sIf (dB (dBin vGt (dBin vIx (dVar 0) (dC (.str [108, 101, 102, 116]))) (dC (.int 0)))) (sSeq (sAsg (dBin vMod (dFn vInt (dBin vIx (dVar 0) (dC (.str [108, 101, 102, 116])))) (dVar 1)) (gName 3))
    (sSeq (sAsg (dBin vDiv (dBin vIx (dVar 0) (dC (.str [108, 101, 102, 116]))) (dVar 1)) (gSub (dVar 0) (dC (.str [108, 101, 102, 116]))))
    (sSeq (sRet (dVar 3))
    sNext))) sNext)
    (sSeq (sAsg (dBin vAdd (dBin vIx (dVar 0) (dC (.str [115, 97, 108, 116]))) (dC (.int 1))) (gSub (dVar 0) (dC (.str [115, 97, 108, 116]))))
    (sSeq (sAsg (dBin vMod (dFn vInt (dBin vAdd (dBin vMul (dBin vIx (dVar 0) (dC (.str [115, 101, 101, 100]))) (dC (.int 48271))) (dBin vMul (dBin vIx (dVar 0) (dC (.str [115, 97, 108, 116]))) (dC (.int 69621))))) (dC (.int 2147483647))) (gName 2))
    (sSeq (sAsg (dBin vMod (dFn vInt (dBin vAdd (dBin vAdd (dBin vMul (dVar 2) (dVar 2)) (dBin vMul (dBin vIx (dVar 0) (dC (.str [115, 97, 108, 116]))) (dC (.int 40692)))) (dC (.int 12345)))) (dC (.int 2147483399))) (gName 2))
    (sSeq (sRet (dBin vMod (dFn vInt (dVar 2)) (dVar 1)))
    sNext))))) [some (.ref 0), some (.int m), none, none] (.dic t.dic :: g)) { nx := fun _ h => P .non h, rt := P } := by
    by_cases hl : 0 < t.left
    · simp [dVar]
      simp [hl, dVar, vMod_ok _ hm, vDiv_ok _ hm hm2]
      exact k _ _ (Int.emod_nonneg _ (by omega)) (Int.emod_lt_of_pos _ hm) ⟨_, by exact ht, rfl⟩
    · refine sok_seq (fun l h => l = [some (.ref 0), some (.int m), none, none] ∧ h = .dic t.dic :: g) (by simp [hl, dVar]) ?_
      rintro l h ⟨rfl, rfl⟩
      refine sok_seq (fun l h => l = [some (.ref 0), some (.int m), none, none] ∧ ∃ t' : Tape, 0 ≤ t'.at_ ∧ h = .dic t'.dic :: g) (by simp [dVar]; exact ⟨_, by exact ht, rfl⟩) ?_
      rintro l h ⟨rfl, t, ht, rfl⟩
      refine sok_seq (fun l h => (∃ x, big64 x = true ∧ l = [some (.ref 0), some (.int m), some (.int x), none]) ∧ h = .dic t.dic :: g) ?_ ?_
      · simp [dVar, vMul_ok _ (.inr big_a), vMul_ok _ (.inr big_b), vMod_ok _ p1]
        exact big_mod _
      rintro l h ⟨⟨x, hx, rfl⟩, rfl⟩
      refine sok_seq (fun l h => (∃ x, l = [some (.ref 0), some (.int m), some (.int x), none]) ∧ h = .dic t.dic :: g) ?_ ?_
      · simp [dVar, vMul_ok _ (.inl hx), vMul_ok _ (.inr big_c), vMod_ok _ p2]
      rintro l h ⟨⟨x, rfl⟩, rfl⟩
      simp [dVar, vMod_ok _ hm]
      exact k _ _ (Int.emod_nonneg _ (by omega)) (Int.emod_lt_of_pos _ hm) ⟨_, by exact ht, rfl⟩
theorem take_sp {m : Int} {o : Ob} {g : Hv} {P : Val → Hv → Prop} (hm : 0 < m) (hm2 : m < 1073741824) (ho : TapeOb o)
    (k : ∀ r o', 0 ≤ r → r < m → TapeOb o' → P (.int r) (o' :: g)) : ok (runDef 4 bTake [.ref 0, .int m] (o :: g)) P := by
  obtain ⟨t, ht, rfl⟩ := ho
  rw [ok_run]
  refine sok_seq (fun l h => l = [some (.ref 0), some (.int m), none, none] ∧ ∃ t' : Tape, 0 ≤ t'.at_ ∧ h = .dic t'.dic :: g) ?_ (fun l h ⟨e1, t', h1, e2⟩ => by subst e1 e2; exact take_key hm hm2 k t' h1)
  simp [dVar]
  by_cases hc : t.left = 0
  · by_cases h2 : t.at_ < t.cells.length
    · obtain ⟨v, e1, e2⟩ := nth_of (l := t.cells.map Val.int) ht (by simpa using h2)
      obtain ⟨c, hc', rfl⟩ := List.mem_map.mp e2
      simp [hc, h2, dVar, vIx_lst e1]
      exact ⟨{ t with left := c, at_ := t.at_ + 1 }, by show 0 ≤ t.at_ + 1; omega, rfl⟩
    · simp [hc, h2, dVar]
      exact ⟨t, ht, rfl⟩
  · simp [hc, dVar]
    exact ⟨t, ht, rfl⟩
theorem tape_sp {ns : List Int} {h : Hv} {P : Val → Hv → Prop} (k : ∀ o, TapeOb o → P (.ref h.length) (h ++ [o])) : ok (runDef 4 bTape [.fz (ns.map .int)] h) P := by
  simp only [ok_run, bTape, e_seq, sok_then]
  simp only [List.map_cons, List.map_nil, List.length_cons, List.length_nil, List.cons_append, List.nil_append, List.replicate]
  simp [dVar]
  refine lc_pure (fun _ => true) (fun v => match v with | .int i => .int (if i < 0 then -i else i) | v => v) trivial ?_ ?_
  · intro x hx
    obtain ⟨i, hi, rfl⟩ := List.mem_map.mp hx
    simp [wipeL, dVar]
  · have e : ∀ ns : List Int, (List.filter (fun _ => true) (ns.map Val.int)).map (fun v => match v with | .int i => .int (if i < 0 then -i else i) | v => v) = (ns.map fun i => if i < 0 then -i else i).map Val.int := by
      intro ns
      induction ns with
      | nil => rfl
      | cons n ns ih => simp only [List.map_cons, List.filter_cons, if_true] at ih ⊢; rw [ih]
    rw [e]
    refine forL_inv (fun items l h1 => h1 = h ∧ (∃ x y, l = [some (.fz (ns.map .int)), some (.lst ((ns.map fun i => if i < 0 then -i else i).map Val.int)), some (.int x), y]) ∧ ∀ z ∈ items, ∃ i, z = Val.int i) ?_ ?_ _ _ _ ?_
    · rintro x r l h1 ⟨rfl, ⟨s, y, rfl⟩, hz⟩
      obtain ⟨i, rfl⟩ := hz x (List.mem_cons_self ..)
      refine ⟨trivial, ?_⟩
      simp [dVar, vMul_ok _ (.inr big_d), vMod_ok _ p1]
      exact fun z hz' => hz z (List.mem_cons_of_mem _ hz')
    · rintro l h1 ⟨rfl, ⟨s, y, rfl⟩, _⟩
      refine ⟨trivial, ?_⟩
      simp [dDisp, dPairs, dVar, keyOf]
      exact k _ ⟨⟨ns.map fun i => if i < 0 then -i else i, 0, 0, s, 0⟩, Int.le_refl _, by simp [dMk, dPut, kEq, Tape.dic]⟩
    · exact ⟨rfl, ⟨7, none, rfl⟩, fun z hz => by obtain ⟨i, _, rfl⟩ := List.mem_map.mp hz; exact ⟨i, rfl⟩⟩
end GH

set_option Elab.async false
set_option linter.all false
set_option maxRecDepth 100000
set_option maxHeartbeats 2000000
set_option autoImplicit false
namespace L06
open PySem PySem.Spec PyProof.Rows L2 GH
def top (i : Nat) : Stmt := PySem.Challenge.pw_grovehouse_k06_plain_meaning.main.body.getD i (.Pass ⟨0, 0, 0, 0⟩)

noncomputable def b_all_elements (Γ : Gam) : Stm := (sSeq (sAsg (dLstM dNil) (gName 1))
    (sSeq (sAsg (dLstM (dCons (dTup (dCons (dTup dNil) (dCons (dVar 0) dNil))) dNil)) (gName 2))
    (sSeq (sWhile (dTru (dVar 2)) (sSeq (sAsg (dMeth0 isLst vPop (dVar 2)) (gTup 2 (gsCons (gName 3) (gsCons (gName 4) gsNil))))
    (sSeq (sIf (dTru (dVar 4)) (sSeq (sExpr (dMeth1 isLst vAppend (dVar 1) (dTup (dCons (dVar 3) (dCons (dVar 4) dNil)))))
    (sSeq (sFor (iEnumG (dCut (dVar 4) (oSome (dC (.int 1))) oNone)) (gTup 2 (gsCons (gName 5) (gsCons (gName 6) gsNil))) (sSeq (sExpr (dMeth1 isLst vAppend (dVar 2) (dTup (dCons (dBin vAdd (dVar 3) (dTup (dCons (dVar 5) dNil))) (dCons (dVar 6) dNil)))))
    sNext))
    sNext)) sNext)
    sNext)))
    (sSeq (sRet (dVar 1))
    sNext))))
noncomputable def d_all_elements (Γ : Gam) : DF := fun args h => tidy (runDef 7 (b_all_elements Γ) args h) h
noncomputable def b_paths (Γ : Gam) : Stm := (sSeq (sRet (dFn vSorted (dLc frozen [1, 2] (iSeq (dCall (Γ 0) (dCons (dVar 0) dNil))) (gTup 2 (gsCons (gName 1) (gsCons (gName 2) gsNil))) dYes (dVar 1))))
    sNext)
noncomputable def d_paths (Γ : Gam) : DF := fun args h => runDef 3 (b_paths Γ) args h
noncomputable def b_label_at (Γ : Gam) : Stm := (sSeq (sFor (iSeq (dCall (Γ 0) (dCons (dVar 0) dNil))) (gTup 2 (gsCons (gName 2) (gsCons (gName 3) gsNil))) (sSeq (sIf (dB (dBin vEq (dVar 2) (dVar 1))) (sSeq (sRet (dBin vIx (dVar 3) (dC (.int 0))))
    sNext) sNext)
    sNext))
    (sSeq (sRet (dC (.str [])))
    sNext))
noncomputable def d_label_at (Γ : Gam) : DF := fun args h => runDef 4 (b_label_at Γ) args h
noncomputable def b_atom_holds (Γ : Gam) : Stm := (sSeq (sAsg (dBin vIx (dVar 0) (dC (.int 0))) (gName 3))
    (sSeq (sIf (dB (dBin vEq (dVar 3) (dC (.str [116, 114, 117, 101])))) (sSeq (sRet (dC (.bl true)))
    sNext) sNext)
    (sSeq (sIf (dB (dBin vEq (dVar 3) (dC (.str [108, 97, 98, 101, 108])))) (sSeq (sRet (dBin vEq (dCall (Γ 2) (dCons (dVar 1) (dCons (dBin vIx (dVar 2) (dBin vIx (dVar 0) (dC (.int 2)))) dNil))) (dBin vIx (dVar 0) (dC (.int 1)))))
    sNext) sNext)
    (sSeq (sIf (dB (dBin vEq (dVar 3) (dC (.str [99, 104, 105, 108, 100])))) (sSeq (sRet (dBin vEq (dBin vIx (dVar 2) (dBin vIx (dVar 0) (dC (.int 3)))) (dBin vAdd (dBin vIx (dVar 2) (dBin vIx (dVar 0) (dC (.int 2)))) (dTup (dCons (dBin vIx (dVar 0) (dC (.int 1))) dNil)))))
    sNext) sNext)
    (sSeq (sIf (dB (dBin vEq (dVar 3) (dC (.str [116, 111, 112])))) (sSeq (sRet (dBin vEq (dBin vIx (dVar 2) (dBin vIx (dVar 0) (dC (.int 1)))) (dTup dNil)))
    sNext) sNext)
    (sSeq (sAsg (dTup (dCons (dBin vIx (dVar 2) (dBin vIx (dVar 0) (dC (.int 1)))) (dCons (dBin vIx (dVar 2) (dBin vIx (dVar 0) (dC (.int 2)))) dNil))) (gTup 2 (gsCons (gName 4) (gsCons (gName 5) gsNil))))
    (sSeq (sIf (dB (dBin vEq (dVar 3) (dC (.str [98, 101, 108, 111, 119])))) (sSeq (sRet (dAndV (dBin vGt (dLen (dVar 5)) (dLen (dVar 4))) (dBin vEq (dCut (dVar 5) oNone (oSome (dLen (dVar 4)))) (dVar 4))))
    sNext) sNext)
    (sSeq (sIf (dB (dBin vEq (dVar 3) (dC (.str [115, 97, 109, 101])))) (sSeq (sRet (dBin vEq (dVar 4) (dVar 5)))
    sNext) sNext)
    (sSeq (sIf (dB (dBin vEq (dVar 3) (dC (.str [105, 110])))) (sSeq (sRet (dBin vIn (dVar 4) (dVar 5)))
    sNext) sNext)
    (sSeq (sRet (dFn vAll (dLc frozen [6] (iSeq (dVar 4)) (gName 6) dYes (dBin vIn (dVar 6) (dVar 5)))))
    sNext))))))))))
noncomputable def d_atom_holds (Γ : Gam) : DF := fun args h => runDef 7 (b_atom_holds Γ) args h
noncomputable def b_subsets (Γ : Gam) : Stm := (sSeq (sAsg (dLst (dCons (dTup dNil) dNil)) (gName 1))
    (sSeq (sFor (iSeq (dVar 0)) (gName 2) (sSeq (sAsg (dBin vAdd (dVar 1) (dLc frozen [3] (iSeq (dVar 1)) (gName 3) dYes (dBin vAdd (dVar 3) (dTup (dCons (dVar 2) dNil))))) (gName 1))
    sNext))
    (sSeq (sRet (dVar 1))
    sNext)))
noncomputable def d_subsets (Γ : Gam) : DF := fun args h => runDef 4 (b_subsets Γ) args h
noncomputable def b_with_value (Γ : Gam) : Stm := (sSeq (sAsg (dFn vDict (dVar 0)) (gName 3))
    (sSeq (sAsg (dVar 2) (gSub (dVar 3) (dVar 1)))
    (sSeq (sRet (dVar 3))
    sNext)))
noncomputable def d_with_value (Γ : Gam) : DF := fun args h => runDef 4 (b_with_value Γ) args h
noncomputable def b_holds (Γ : Gam) : Stm := (sSeq (sAsg (dBin vIx (dVar 0) (dC (.int 0))) (gName 3))
    (sSeq (sIf (dB (dBin vEq (dVar 3) (dC (.str [110, 111, 116])))) (sSeq (sRet (dNotV (dCall (Γ 6) (dCons (dBin vIx (dVar 0) (dC (.int 1))) (dCons (dVar 1) (dCons (dVar 2) dNil))))))
    sNext) sNext)
    (sSeq (sIf (dB (dBin vEq (dVar 3) (dC (.str [97, 110, 100])))) (sSeq (sRet (dAndV (dCall (Γ 6) (dCons (dBin vIx (dVar 0) (dC (.int 1))) (dCons (dVar 1) (dCons (dVar 2) dNil)))) (dCall (Γ 6) (dCons (dBin vIx (dVar 0) (dC (.int 2))) (dCons (dVar 1) (dCons (dVar 2) dNil))))))
    sNext) sNext)
    (sSeq (sIf (dB (dBin vEq (dVar 3) (dC (.str [111, 114])))) (sSeq (sRet (dOrV (dCall (Γ 6) (dCons (dBin vIx (dVar 0) (dC (.int 1))) (dCons (dVar 1) (dCons (dVar 2) dNil)))) (dCall (Γ 6) (dCons (dBin vIx (dVar 0) (dC (.int 2))) (dCons (dVar 1) (dCons (dVar 2) dNil))))))
    sNext) sNext)
    (sSeq (sIf (dB (dBin vIn (dVar 3) (dTup (dCons (dC (.str [115, 111, 109, 101])) (dCons (dC (.str [97, 108, 108])) (dCons (dC (.str [115, 111, 109, 101, 115, 101, 116])) (dCons (dC (.str [97, 108, 108, 115, 101, 116])) dNil))))))) (sSeq (sAsg (dCall (Γ 1) (dCons (dVar 1) dNil)) (gName 4))
    (sSeq (sIf (dB (dBin vEq (dCut (dVar 3) (oSome (dNeg (dC (.int 3)))) oNone) (dC (.str [115, 101, 116])))) (sSeq (sAsg (dCall (Γ 4) (dCons (dVar 4) dNil)) (gName 4))
    sNext) sNext)
    (sSeq (sAsg (dBin vEq (dCut (dVar 3) oNone (oSome (dC (.int 4)))) (dC (.str [115, 111, 109, 101]))) (gName 5))
    (sSeq (sFor (iSeq (dVar 4)) (gName 6) (sSeq (sIf (dB (dBin vEq (dCall (Γ 6) (dCons (dBin vIx (dVar 0) (dC (.int 2))) (dCons (dVar 1) (dCons (dCall (Γ 5) (dCons (dVar 2) (dCons (dBin vIx (dVar 0) (dC (.int 1))) (dCons (dVar 6) dNil)))) dNil)))) (dVar 5))) (sSeq (sRet (dVar 5))
    sNext) sNext)
    sNext))
    (sSeq (sRet (dNotV (dVar 5)))
    sNext))))) sNext)
    (sSeq (sRet (dCall (Γ 3) (dCons (dVar 0) (dCons (dVar 1) (dCons (dVar 2) dNil)))))
    sNext))))))
noncomputable def d_holds (Γ : Gam) : DF := fun args h => tidy (runDef 7 (b_holds Γ) args h) h
noncomputable def b__law_tape (Γ : Gam) : Stm := (sSeq (sAsg (dLc frozen [3] (iSeq (dVar 0)) (gName 3) dYes (dFn vAbs (dFn vInt (dVar 3)))) (gName 1))
    (sSeq (sAsg (dC (.int 7)) (gName 2))
    (sSeq (sFor (iSeq (dVar 1)) (gName 3) (sSeq (sAsg (dBin vMod (dFn vInt (dBin vAdd (dBin vMul (dVar 2) (dC (.int 31))) (dVar 3))) (dC (.int 2147483647))) (gName 2))
    sNext))
    (sSeq (sRet (dDisp (((dC (.str [99, 101, 108, 108, 115])), (dVar 1)) :: (((dC (.str [97, 116])), (dC (.int 0))) :: (((dC (.str [108, 101, 102, 116])), (dC (.int 0))) :: (((dC (.str [115, 101, 101, 100])), (dVar 2)) :: (((dC (.str [115, 97, 108, 116])), (dC (.int 0))) :: [])))))))
    sNext))))
noncomputable def d__law_tape (Γ : Gam) : DF := fun args h => runDef 4 (b__law_tape Γ) args h
noncomputable def b__law_take (Γ : Gam) : Stm := (sSeq (sIf (dAnd (dB (dBin vEq (dBin vIx (dVar 0) (dC (.str [108, 101, 102, 116]))) (dC (.int 0)))) (dB (dBin vLt (dBin vIx (dVar 0) (dC (.str [97, 116]))) (dLen (dBin vIx (dVar 0) (dC (.str [99, 101, 108, 108, 115]))))))) (sSeq (sAsg (dBin vIx (dBin vIx (dVar 0) (dC (.str [99, 101, 108, 108, 115]))) (dBin vIx (dVar 0) (dC (.str [97, 116])))) (gSub (dVar 0) (dC (.str [108, 101, 102, 116]))))
    (sSeq (sAsg (dBin vAdd (dBin vIx (dVar 0) (dC (.str [97, 116]))) (dC (.int 1))) (gSub (dVar 0) (dC (.str [97, 116]))))
    sNext)) sNext)
    (sSeq (sIf (dB (dBin vGt (dBin vIx (dVar 0) (dC (.str [108, 101, 102, 116]))) (dC (.int 0)))) (sSeq (sAsg (dBin vMod (dFn vInt (dBin vIx (dVar 0) (dC (.str [108, 101, 102, 116])))) (dVar 1)) (gName 3))
    (sSeq (sAsg (dBin vDiv (dBin vIx (dVar 0) (dC (.str [108, 101, 102, 116]))) (dVar 1)) (gSub (dVar 0) (dC (.str [108, 101, 102, 116]))))
    (sSeq (sRet (dVar 3))
    sNext))) sNext)
    (sSeq (sAsg (dBin vAdd (dBin vIx (dVar 0) (dC (.str [115, 97, 108, 116]))) (dC (.int 1))) (gSub (dVar 0) (dC (.str [115, 97, 108, 116]))))
    (sSeq (sAsg (dBin vMod (dFn vInt (dBin vAdd (dBin vMul (dBin vIx (dVar 0) (dC (.str [115, 101, 101, 100]))) (dC (.int 48271))) (dBin vMul (dBin vIx (dVar 0) (dC (.str [115, 97, 108, 116]))) (dC (.int 69621))))) (dC (.int 2147483647))) (gName 2))
    (sSeq (sAsg (dBin vMod (dFn vInt (dBin vAdd (dBin vAdd (dBin vMul (dVar 2) (dVar 2)) (dBin vMul (dBin vIx (dVar 0) (dC (.str [115, 97, 108, 116]))) (dC (.int 40692)))) (dC (.int 12345)))) (dC (.int 2147483399))) (gName 2))
    (sSeq (sRet (dBin vMod (dFn vInt (dVar 2)) (dVar 1)))
    sNext))))))
noncomputable def d__law_take (Γ : Gam) : DF := fun args h => runDef 4 (b__law_take Γ) args h
noncomputable def b__law_is_integer (Γ : Gam) : Stm := (sSeq (sRet (dAndV (dIsi .int (dVar 0)) (dNotV (dIsi .bool (dVar 0)))))
    sNext)
noncomputable def d__law_is_integer (Γ : Gam) : DF := fun args h => runDef 1 (b__law_is_integer Γ) args h
noncomputable def b__law_same_items (Γ : Gam) : Stm := (sSeq (sIf (dB (dBin vNe (dLen (dVar 0)) (dLen (dVar 1)))) (sSeq (sRet (dC (.bl false)))
    sNext) sNext)
    (sSeq (sFor (iRange1 (dLen (dVar 1))) (gName 2) (sSeq (sIf (dNot (dTru (dCall (Γ 11) (dCons (dBin vIx (dVar 0) (dVar 2)) (dCons (dBin vIx (dVar 1) (dVar 2)) dNil))))) (sSeq (sRet (dC (.bl false)))
    sNext) sNext)
    sNext))
    (sSeq (sRet (dC (.bl true)))
    sNext)))
noncomputable def d__law_same_items (Γ : Gam) : DF := fun args h => runDef 3 (b__law_same_items Γ) args h
noncomputable def b__law_same (Γ : Gam) : Stm := (sSeq (sIf (dB (dBin vIsN (dVar 1) (dC .non))) (sSeq (sRet (dBin vIsN (dVar 0) (dC .non)))
    sNext) sNext)
    (sSeq (sIf (dTru (dIsi .bool (dVar 1))) (sSeq (sRet (dAndV (dIsi .bool (dVar 0)) (dBin vEq (dVar 0) (dVar 1))))
    sNext) sNext)
    (sSeq (sIf (dTru (dIsi .int (dVar 1))) (sSeq (sRet (dAndV (dCall (Γ 9) (dCons (dVar 0) dNil)) (dBin vEq (dVar 0) (dVar 1))))
    sNext) sNext)
    (sSeq (sIf (dTru (dIsi .str (dVar 1))) (sSeq (sRet (dAndV (dIsi .str (dVar 0)) (dBin vEq (dVar 0) (dVar 1))))
    sNext) sNext)
    (sSeq (sIf (dTru (dIsi .tuple (dVar 1))) (sSeq (sRet (dAndV (dIsi .tuple (dVar 0)) (dCall (Γ 10) (dCons (dVar 0) (dCons (dVar 1) dNil)))))
    sNext) sNext)
    (sSeq (sIf (dTru (dIsi .list (dVar 1))) (sSeq (sRet (dAndV (dIsi .list (dVar 0)) (dCall (Γ 10) (dCons (dVar 0) (dCons (dVar 1) dNil)))))
    sNext) sNext)
    (sSeq (sIf (dOr (dNot (dTru (dIsi .dict (dVar 0)))) (dB (dBin vNe (dLen (dVar 0)) (dLen (dVar 1))))) (sSeq (sRet (dC (.bl false)))
    sNext) sNext)
    (sSeq (sFor (iSeq (dVar 1)) (gName 2) (sSeq (sIf (dOr (dB (dBin vNotIn (dVar 2) (dVar 0))) (dNot (dTru (dCall (Γ 11) (dCons (dBin vIx (dVar 0) (dVar 2)) (dCons (dBin vIx (dVar 1) (dVar 2)) dNil)))))) (sSeq (sRet (dC (.bl false)))
    sNext) sNext)
    sNext))
    (sSeq (sFor (iSeq (dVar 0)) (gName 2) (sSeq (sIf (dTru (dIsi .bool (dVar 2))) (sSeq (sRet (dC (.bl false)))
    sNext) sNext)
    sNext))
    (sSeq (sRet (dC (.bl true)))
    sNext))))))))))
noncomputable def d__law_same (Γ : Gam) : DF := fun args h => runDef 3 (b__law_same Γ) args h
noncomputable def b__law_kind (Γ : Gam) : Stm := (sSeq (sAsg (dBin vIx (dTup (dCons (dTup (dCons (dC (.str [97])) dNil)) (dCons (dTup (dCons (dC (.str [97])) (dCons (dC (.str [98])) dNil))) (dCons (dTup (dCons (dC (.str [97])) (dCons (dC (.str [98])) dNil))) (dCons (dTup (dCons (dC (.str [98])) (dCons (dC (.str [100])) (dCons (dC (.str [122])) dNil)))) dNil))))) (dCall (Γ 8) (dCons (dVar 0) (dCons (dC (.int 4)) dNil)))) (gName 1))
    (sSeq (sRet (dTup (dCons (dBin vAdd (dC (.int 1)) (dBin vDiv (dCall (Γ 8) (dCons (dVar 0) (dCons (dC (.int 5)) dNil))) (dC (.int 3)))) (dCons (dVar 1) dNil))))
    sNext))
noncomputable def d__law_kind (Γ : Gam) : DF := fun args h => runDef 2 (b__law_kind Γ) args h
noncomputable def b__law_shape (Γ : Gam) : Stm := (sSeq (sIf (dB (dBin vEq (dVar 2) (dC (.int 0)))) (sSeq (sRet (dTup dNil))
    sNext) sNext)
    (sSeq (sAsg (dBin vIx (dBin vIx (dVar 1) (dC (.int 1))) (dCall (Γ 8) (dCons (dVar 0) (dCons (dLen (dBin vIx (dVar 1) (dC (.int 1)))) dNil)))) (gName 3))
    (sSeq (sIf (dB (dBin vEq (dBin vIx (dVar 1) (dC (.int 0))) (dC (.int 1)))) (sSeq (sRet (dTup (dCons (dVar 3) (dCons (dCall (Γ 13) (dCons (dVar 0) (dCons (dVar 1) (dCons (dBin vSub (dVar 2) (dC (.int 1))) dNil)))) dNil))))
    sNext) sNext)
    (sSeq (sAsg (dCall (Γ 8) (dCons (dVar 0) (dCons (dVar 2) dNil))) (gName 4))
    (sSeq (sRet (dTup (dCons (dVar 3) (dCons (dCall (Γ 13) (dCons (dVar 0) (dCons (dVar 1) (dCons (dVar 4) dNil)))) (dCons (dCall (Γ 13) (dCons (dVar 0) (dCons (dVar 1) (dCons (dBin vSub (dBin vSub (dVar 2) (dC (.int 1))) (dVar 4)) dNil)))) dNil)))))
    sNext)))))
noncomputable def d__law_shape (Γ : Gam) : DF := fun args h => runDef 5 (b__law_shape Γ) args h
noncomputable def b__law_paths (Γ : Gam) : Stm := (sSeq (sIf (dB (dBin vEq (dVar 0) (dTup dNil))) (sSeq (sRet (dLst dNil))
    sNext) sNext)
    (sSeq (sAsg (dLst (dCons (dVar 1) dNil)) (gName 2))
    (sSeq (sFor (iRange1 (dBin vSub (dLen (dVar 0)) (dC (.int 1)))) (gName 3) (sSeq (sAsg (dBin vAdd (dVar 2) (dCall (Γ 14) (dCons (dBin vIx (dVar 0) (dBin vAdd (dVar 3) (dC (.int 1)))) (dCons (dBin vAdd (dVar 1) (dTup (dCons (dVar 3) dNil))) dNil)))) (gName 2))
    sNext))
    (sSeq (sRet (dVar 2))
    sNext))))
noncomputable def d__law_paths (Γ : Gam) : DF := fun args h => runDef 4 (b__law_paths Γ) args h
noncomputable def b__law_part (Γ : Gam) : Stm := (sSeq (sFor (iSeq (dVar 1)) (gName 2) (sSeq (sAsg (dBin vIx (dVar 0) (dBin vAdd (dVar 2) (dC (.int 1)))) (gName 0))
    sNext))
    (sSeq (sRet (dVar 0))
    sNext))
noncomputable def d__law_part (Γ : Gam) : DF := fun args h => runDef 3 (b__law_part Γ) args h
noncomputable def b__law_atom (Γ : Gam) : Stm := (sSeq (sAsg (dCall (Γ 8) (dCons (dVar 0) (dCons (dC (.int 12)) dNil))) (gName 4))
    (sSeq (sIf (dAnd (dB (dBin vNe (dVar 3) (dLst dNil))) (dOr (dB (dBin vLt (dVar 4) (dC (.int 4)))) (dB (dBin vEq (dVar 2) (dLst dNil))))) (sSeq (sIf (dOr (dB (dBin vEq (dVar 2) (dLst dNil))) (dB (dBin vEq (dVar 4) (dC (.int 0))))) (sSeq (sRet (dTup (dCons (dC (.str [105, 110, 115, 105, 100, 101])) (dCons (dBin vIx (dVar 3) (dCall (Γ 8) (dCons (dVar 0) (dCons (dLen (dVar 3)) dNil)))) (dCons (dBin vIx (dVar 3) (dCall (Γ 8) (dCons (dVar 0) (dCons (dLen (dVar 3)) dNil)))) dNil)))))
    sNext) sNext)
    (sSeq (sRet (dTup (dCons (dC (.str [105, 110])) (dCons (dBin vIx (dVar 2) (dCall (Γ 8) (dCons (dVar 0) (dCons (dLen (dVar 2)) dNil)))) (dCons (dBin vIx (dVar 3) (dCall (Γ 8) (dCons (dVar 0) (dCons (dLen (dVar 3)) dNil)))) dNil)))))
    sNext)) sNext)
    (sSeq (sIf (dB (dBin vEq (dVar 2) (dLst dNil))) (sSeq (sRet (dTup (dCons (dC (.str [116, 114, 117, 101])) dNil)))
    sNext) sNext)
    (sSeq (sAsg (dBin vIx (dVar 2) (dCall (Γ 8) (dCons (dVar 0) (dCons (dLen (dVar 2)) dNil)))) (gName 5))
    (sSeq (sAsg (dBin vIx (dVar 2) (dCall (Γ 8) (dCons (dVar 0) (dCons (dLen (dVar 2)) dNil)))) (gName 6))
    (sSeq (sIf (dB (dBin vLt (dVar 4) (dC (.int 7)))) (sSeq (sRet (dTup (dCons (dC (.str [108, 97, 98, 101, 108])) (dCons (dBin vIx (dBin vIx (dVar 1) (dC (.int 1))) (dCall (Γ 8) (dCons (dVar 0) (dCons (dLen (dBin vIx (dVar 1) (dC (.int 1)))) dNil)))) (dCons (dVar 5) dNil)))))
    sNext) sNext)
    (sSeq (sIf (dB (dBin vEq (dVar 4) (dC (.int 7)))) (sSeq (sRet (dTup (dCons (dC (.str [116, 111, 112])) (dCons (dVar 5) dNil))))
    sNext) sNext)
    (sSeq (sIf (dB (dBin vEq (dVar 4) (dC (.int 8)))) (sSeq (sRet (dTup (dCons (dC (.str [115, 97, 109, 101])) (dCons (dVar 5) (dCons (dVar 6) dNil)))))
    sNext) sNext)
    (sSeq (sRet (dIf (dB (dBin vLt (dVar 4) (dC (.int 11)))) (dTup (dCons (dC (.str [99, 104, 105, 108, 100])) (dCons (dCall (Γ 8) (dCons (dVar 0) (dCons (dBin vIx (dVar 1) (dC (.int 0))) dNil))) (dCons (dVar 5) (dCons (dVar 6) dNil))))) (dTup (dCons (dC (.str [98, 101, 108, 111, 119])) (dCons (dVar 5) (dCons (dVar 6) dNil))))))
    sNext)))))))))
noncomputable def d__law_atom (Γ : Gam) : DF := fun args h => runDef 7 (b__law_atom Γ) args h
noncomputable def b__law_matrix (Γ : Gam) : Stm := (sSeq (sAsg (dIf (dB (dBin vGt (dVar 4) (dC (.int 0)))) (dCall (Γ 8) (dCons (dVar 0) (dCons (dC (.int 8)) dNil))) (dC (.int 0))) (gName 5))
    (sSeq (sIf (dB (dBin vLt (dVar 5) (dC (.int 3)))) (sSeq (sRet (dCall (Γ 16) (dCons (dVar 0) (dCons (dVar 1) (dCons (dVar 2) (dCons (dVar 3) dNil))))))
    sNext) sNext)
    (sSeq (sIf (dB (dBin vEq (dVar 5) (dC (.int 3)))) (sSeq (sRet (dTup (dCons (dC (.str [110, 111, 116])) (dCons (dCall (Γ 17) (dCons (dVar 0) (dCons (dVar 1) (dCons (dVar 2) (dCons (dVar 3) (dCons (dBin vSub (dVar 4) (dC (.int 1))) dNil)))))) dNil))))
    sNext) sNext)
    (sSeq (sIf (dB (dBin vLt (dVar 5) (dC (.int 7)))) (sSeq (sAsg (dBin vIx (dLst (dCons (dC (.str [97, 110, 100])) (dCons (dC (.str [111, 114])) dNil))) (dCall (Γ 8) (dCons (dVar 0) (dCons (dC (.int 2)) dNil)))) (gName 6))
    (sSeq (sAsg (dCall (Γ 17) (dCons (dVar 0) (dCons (dVar 1) (dCons (dVar 2) (dCons (dVar 3) (dCons (dBin vSub (dVar 4) (dC (.int 1))) dNil)))))) (gName 8))
    (sSeq (sRet (dTup (dCons (dVar 6) (dCons (dVar 8) (dCons (dCall (Γ 17) (dCons (dVar 0) (dCons (dVar 1) (dCons (dVar 2) (dCons (dVar 3) (dCons (dBin vSub (dVar 4) (dC (.int 1))) dNil)))))) dNil)))))
    sNext))) sNext)
    (sSeq (sAsg (dBin vIx (dLst (dCons (dC (.str [115, 111, 109, 101])) (dCons (dC (.str [97, 108, 108])) dNil))) (dCall (Γ 8) (dCons (dVar 0) (dCons (dC (.int 2)) dNil)))) (gName 6))
    (sSeq (sAsg (dBin vIx (dLst (dCons (dC (.str [120])) (dCons (dC (.str [121])) (dCons (dC (.str [122])) dNil)))) (dCall (Γ 8) (dCons (dVar 0) (dCons (dC (.int 3)) dNil)))) (gName 7))
    (sSeq (sRet (dTup (dCons (dVar 6) (dCons (dVar 7) (dCons (dCall (Γ 17) (dCons (dVar 0) (dCons (dVar 1) (dCons (dBin vAdd (dVar 2) (dLst (dCons (dVar 7) dNil))) (dCons (dVar 3) (dCons (dBin vSub (dVar 4) (dC (.int 1))) dNil)))))) dNil)))))
    sNext)))))))
noncomputable def d__law_matrix (Γ : Gam) : DF := fun args h => runDef 9 (b__law_matrix Γ) args h
noncomputable def b__law_closed (Γ : Gam) : Stm := (sSeq (sFor (iSeq (dVar 2)) (gName 4) (sSeq (sAsg (dTup (dCons (dBin vIx (dLst (dCons (dC (.str [115, 111, 109, 101])) (dCons (dC (.str [97, 108, 108])) dNil))) (dCall (Γ 8) (dCons (dVar 0) (dCons (dC (.int 2)) dNil)))) (dCons (dVar 4) (dCons (dVar 1) dNil)))) (gName 1))
    sNext))
    (sSeq (sFor (iSeq (dVar 3)) (gName 4) (sSeq (sAsg (dTup (dCons (dBin vIx (dLst (dCons (dC (.str [115, 111, 109, 101, 115, 101, 116])) (dCons (dC (.str [97, 108, 108, 115, 101, 116])) dNil))) (dCall (Γ 8) (dCons (dVar 0) (dCons (dC (.int 2)) dNil)))) (dCons (dVar 4) (dCons (dVar 1) dNil)))) (gName 1))
    sNext))
    (sSeq (sRet (dVar 1))
    sNext)))
noncomputable def d__law_closed (Γ : Gam) : DF := fun args h => runDef 5 (b__law_closed Γ) args h
noncomputable def b__law_sentence (Γ : Gam) : Stm := (sSeq (sAsg (dCut (dLst (dCons (dC (.str [120])) (dCons (dC (.str [121])) dNil))) oNone (oSome (dBin vAdd (dC (.int 1)) (dCall (Γ 8) (dCons (dVar 0) (dCons (dC (.int 2)) dNil)))))) (gName 3))
    (sSeq (sAsg (dCut (dLst (dCons (dC (.str [88])) dNil)) oNone (oSome (dBin vDiv (dCall (Γ 8) (dCons (dVar 0) (dCons (dC (.int 3)) dNil))) (dC (.int 2))))) (gName 4))
    (sSeq (sRet (dCall (Γ 18) (dCons (dVar 0) (dCons (dCall (Γ 17) (dCons (dVar 0) (dCons (dVar 1) (dCons (dVar 3) (dCons (dVar 4) (dCons (dVar 2) dNil)))))) (dCons (dVar 3) (dCons (dVar 4) dNil))))))
    sNext)))
noncomputable def d__law_sentence (Γ : Gam) : DF := fun args h => runDef 5 (b__law_sentence Γ) args h
noncomputable def b__law_subsets (Γ : Gam) : Stm := (sSeq (sAsg (dLst (dCons (dTup dNil) dNil)) (gName 1))
    (sSeq (sFor (iSeq (dVar 0)) (gName 2) (sSeq (sAsg (dBin vAdd (dVar 1) (dLc frozen [3] (iSeq (dVar 1)) (gName 3) dYes (dBin vAdd (dVar 3) (dTup (dCons (dVar 2) dNil))))) (gName 1))
    sNext))
    (sSeq (sRet (dVar 1))
    sNext)))
noncomputable def d__law_subsets (Γ : Gam) : DF := fun args h => runDef 4 (b__law_subsets Γ) args h
noncomputable def b__law_atom_holds (Γ : Gam) : Stm := (sSeq (sAsg (dBin vIx (dVar 0) (dC (.int 0))) (gName 3))
    (sSeq (sIf (dB (dBin vEq (dVar 3) (dC (.str [116, 114, 117, 101])))) (sSeq (sRet (dC (.bl true)))
    sNext) sNext)
    (sSeq (sIf (dB (dBin vEq (dVar 3) (dC (.str [108, 97, 98, 101, 108])))) (sSeq (sRet (dBin vEq (dBin vIx (dCall (Γ 15) (dCons (dVar 1) (dCons (dBin vIx (dVar 2) (dBin vIx (dVar 0) (dC (.int 2)))) dNil))) (dC (.int 0))) (dBin vIx (dVar 0) (dC (.int 1)))))
    sNext) sNext)
    (sSeq (sIf (dB (dBin vEq (dVar 3) (dC (.str [116, 111, 112])))) (sSeq (sRet (dBin vEq (dBin vIx (dVar 2) (dBin vIx (dVar 0) (dC (.int 1)))) (dTup dNil)))
    sNext) sNext)
    (sSeq (sAsg (dBin vIx (dVar 2) (dBin vIx (dVar 0) (dNeg (dC (.int 2))))) (gName 4))
    (sSeq (sAsg (dBin vIx (dVar 2) (dBin vIx (dVar 0) (dNeg (dC (.int 1))))) (gName 5))
    (sSeq (sIf (dB (dBin vEq (dVar 3) (dC (.str [99, 104, 105, 108, 100])))) (sSeq (sRet (dBin vEq (dVar 5) (dBin vAdd (dVar 4) (dTup (dCons (dBin vIx (dVar 0) (dC (.int 1))) dNil)))))
    sNext) sNext)
    (sSeq (sIf (dB (dBin vEq (dVar 3) (dC (.str [98, 101, 108, 111, 119])))) (sSeq (sRet (dAndV (dBin vGt (dLen (dVar 5)) (dLen (dVar 4))) (dBin vEq (dCut (dVar 5) oNone (oSome (dLen (dVar 4)))) (dVar 4))))
    sNext) sNext)
    (sSeq (sIf (dB (dBin vEq (dVar 3) (dC (.str [115, 97, 109, 101])))) (sSeq (sRet (dBin vEq (dVar 4) (dVar 5)))
    sNext) sNext)
    (sSeq (sIf (dB (dBin vEq (dVar 3) (dC (.str [105, 110])))) (sSeq (sRet (dBin vIn (dVar 4) (dVar 5)))
    sNext) sNext)
    (sSeq (sRet (dBin vEq (dLc frozen [6] (iSeq (dVar 4)) (gName 6) (dB (dBin vNotIn (dVar 6) (dVar 5))) (dVar 6)) (dLst dNil)))
    sNext)))))))))))
noncomputable def d__law_atom_holds (Γ : Gam) : DF := fun args h => runDef 7 (b__law_atom_holds Γ) args h
noncomputable def b__law_holds (Γ : Gam) : Stm := (sSeq (sAsg (dBin vIx (dVar 0) (dC (.int 0))) (gName 3))
    (sSeq (sIf (dB (dBin vEq (dVar 3) (dC (.str [110, 111, 116])))) (sSeq (sRet (dNotV (dCall (Γ 22) (dCons (dBin vIx (dVar 0) (dC (.int 1))) (dCons (dVar 1) (dCons (dVar 2) dNil))))))
    sNext) sNext)
    (sSeq (sIf (dB (dBin vEq (dVar 3) (dC (.str [97, 110, 100])))) (sSeq (sRet (dAndV (dCall (Γ 22) (dCons (dBin vIx (dVar 0) (dC (.int 1))) (dCons (dVar 1) (dCons (dVar 2) dNil)))) (dCall (Γ 22) (dCons (dBin vIx (dVar 0) (dC (.int 2))) (dCons (dVar 1) (dCons (dVar 2) dNil))))))
    sNext) sNext)
    (sSeq (sIf (dB (dBin vEq (dVar 3) (dC (.str [111, 114])))) (sSeq (sRet (dOrV (dCall (Γ 22) (dCons (dBin vIx (dVar 0) (dC (.int 1))) (dCons (dVar 1) (dCons (dVar 2) dNil)))) (dCall (Γ 22) (dCons (dBin vIx (dVar 0) (dC (.int 2))) (dCons (dVar 1) (dCons (dVar 2) dNil))))))
    sNext) sNext)
    (sSeq (sIf (dB (dBin vIn (dVar 3) (dLst (dCons (dC (.str [115, 111, 109, 101])) (dCons (dC (.str [97, 108, 108])) (dCons (dC (.str [115, 111, 109, 101, 115, 101, 116])) (dCons (dC (.str [97, 108, 108, 115, 101, 116])) dNil))))))) (sSeq (sAsg (dCall (Γ 14) (dCons (dVar 1) (dCons (dTup dNil) dNil))) (gName 4))
    (sSeq (sIf (dB (dBin vIn (dVar 3) (dLst (dCons (dC (.str [115, 111, 109, 101, 115, 101, 116])) (dCons (dC (.str [97, 108, 108, 115, 101, 116])) dNil))))) (sSeq (sAsg (dCall (Γ 20) (dCons (dVar 4) dNil)) (gName 4))
    sNext) sNext)
    (sSeq (sAsg (dBin vIn (dVar 3) (dLst (dCons (dC (.str [115, 111, 109, 101])) (dCons (dC (.str [115, 111, 109, 101, 115, 101, 116])) dNil)))) (gName 5))
    (sSeq (sFor (iSeq (dVar 4)) (gName 6) (sSeq (sAsg (dFn vDict (dVar 2)) (gName 7))
    (sSeq (sAsg (dVar 6) (gSub (dVar 7) (dBin vIx (dVar 0) (dC (.int 1)))))
    (sSeq (sIf (dB (dBin vEq (dCall (Γ 22) (dCons (dBin vIx (dVar 0) (dC (.int 2))) (dCons (dVar 1) (dCons (dVar 7) dNil)))) (dVar 5))) (sSeq (sRet (dVar 5))
    sNext) sNext)
    sNext))))
    (sSeq (sRet (dNotV (dVar 5)))
    sNext))))) sNext)
    (sSeq (sRet (dCall (Γ 21) (dCons (dVar 0) (dCons (dVar 1) (dCons (dVar 2) dNil)))))
    sNext))))))
noncomputable def d__law_holds (Γ : Gam) : DF := fun args h => tidy (runDef 8 (b__law_holds Γ) args h) h
noncomputable def b_law (Γ : Gam) : Stm := (sSeq (sAsg (dCall (Γ 7) (dCons (dVar 0) dNil)) (gName 1))
    (sSeq (sAsg (dCall (Γ 12) (dCons (dVar 1) dNil)) (gName 2))
    (sSeq (sAsg (dCall (Γ 13) (dCons (dVar 1) (dCons (dVar 2) (dCons (dCall (Γ 8) (dCons (dVar 1) (dCons (dC (.int 6)) dNil))) dNil)))) (gName 3))
    (sSeq (sAsg (dFn vSorted (dCall (Γ 14) (dCons (dVar 3) (dCons (dTup dNil) dNil)))) (gName 4))
    (sSeq (sAsg dNewD (gName 5))
    (sSeq (sAsg (dLst dNil) (gName 6))
    (sSeq (sIf (dB (dBin vNe (dVar 4) (dLst dNil))) (sSeq (sAsg (dCut (dLst (dCons (dC (.str [120])) (dCons (dC (.str [121])) dNil))) oNone (oSome (dCall (Γ 8) (dCons (dVar 1) (dCons (dC (.int 3)) dNil))))) (gName 6))
    sNext) sNext)
    (sSeq (sFor (iSeq (dVar 6)) (gName 7) (sSeq (sAsg (dBin vIx (dVar 4) (dCall (Γ 8) (dCons (dVar 1) (dCons (dLen (dVar 4)) dNil)))) (gSub (dVar 5) (dVar 7)))
    sNext))
    (sSeq (sAsg (dCut (dLst (dCons (dC (.str [88])) (dCons (dC (.str [89])) dNil))) oNone (oSome (dCall (Γ 8) (dCons (dVar 1) (dCons (dC (.int 3)) dNil))))) (gName 8))
    (sSeq (sFor (iSeq (dVar 8)) (gName 7) (sSeq (sAsg (dFn vTuple (dLc frozen [10] (iSeq (dVar 4)) (gName 10) (dB (dBin vEq (dCall (Γ 8) (dCons (dVar 1) (dCons (dC (.int 2)) dNil))) (dC (.int 1)))) (dVar 10))) (gSub (dVar 5) (dVar 7)))
    sNext))
    (sSeq (sIf (dNot (dTru (dCall (Γ 11) (dCons (dCall (Γ 6) (dCons (dTup (dCons (dC (.str [115, 111, 109, 101, 115, 101, 116])) (dCons (dC (.str [88])) (dCons (dTup (dCons (dC (.str [97, 108, 108])) (dCons (dC (.str [120])) (dCons (dTup (dCons (dC (.str [105, 110])) (dCons (dC (.str [120])) (dCons (dC (.str [88])) dNil)))) dNil)))) dNil)))) (dCons (dVar 3) (dCons dNewD dNil)))) (dCons (dC (.bl true)) dNil))))) (sSeq (sRet (dC (.bl false)))
    sNext) sNext)
    (sSeq (sAsg (dCall (Γ 17) (dCons (dVar 1) (dCons (dVar 2) (dCons (dVar 6) (dCons (dVar 8) (dCons (dC (.int 3)) dNil)))))) (gName 9))
    (sSeq (sIf (dB (dBin vEq (dCall (Γ 8) (dCons (dVar 1) (dCons (dC (.int 3)) dNil))) (dC (.int 0)))) (sSeq (sAsg (dTup (dCons (dC (.str [111, 114])) (dCons (dCall (Γ 19) (dCons (dVar 1) (dCons (dVar 2) (dCons (dC (.int 2)) dNil)))) (dCons (dVar 9) dNil)))) (gName 9))
    sNext) sNext)
    (sSeq (sRet (dCall (Γ 11) (dCons (dCall (Γ 6) (dCons (dVar 9) (dCons (dVar 3) (dCons (dVar 5) dNil)))) (dCons (dCall (Γ 22) (dCons (dVar 9) (dCons (dVar 3) (dCons (dVar 5) dNil)))) dNil))))
    sNext))))))))))))))
noncomputable def d_law (Γ : Gam) : DF := fun args h => runDef 11 (b_law Γ) args h
noncomputable def D (Γ : Gam) : Gam := fun j => match j with
  | 0 => d_all_elements Γ
  | 1 => d_paths Γ
  | 2 => d_label_at Γ
  | 3 => d_atom_holds Γ
  | 4 => d_subsets Γ
  | 5 => d_with_value Γ
  | 6 => d_holds Γ
  | 7 => d__law_tape Γ
  | 8 => d__law_take Γ
  | 9 => d__law_is_integer Γ
  | 10 => d__law_same_items Γ
  | 11 => d__law_same Γ
  | 12 => d__law_kind Γ
  | 13 => d__law_shape Γ
  | 14 => d__law_paths Γ
  | 15 => d__law_part Γ
  | 16 => d__law_atom Γ
  | 17 => d__law_matrix Γ
  | 18 => d__law_closed Γ
  | 19 => d__law_sentence Γ
  | 20 => d__law_subsets Γ
  | 21 => d__law_atom_holds Γ
  | 22 => d__law_holds Γ
  | 23 => d_law Γ
  | _ => fun _ _ => .fail
def sig : List (Str × List Str) := [("all_elements", ["shape"]), ("paths", ["shape"]), ("label_at", ["shape", "path"]), ("atom_holds", ["formula", "shape", "values"]), ("subsets", ["every"]), ("with_value", ["values", "name", "value"]), ("holds", ["formula", "shape", "values"]), ("_law_tape", ["script"]), ("_law_take", ["tape", "many"]), ("_law_is_integer", ["actual"]), ("_law_same_items", ["actual", "expected"]), ("_law_same", ["actual", "expected"]), ("_law_kind", ["tape"]), ("_law_shape", ["tape", "kind", "count"]), ("_law_paths", ["shape", "path"]), ("_law_part", ["shape", "path"]), ("_law_atom", ["tape", "kind", "singles", "sets"]), ("_law_matrix", ["tape", "kind", "singles", "sets", "depth"]), ("_law_closed", ["tape", "formula", "singles", "sets"]), ("_law_sentence", ["tape", "kind", "depth"]), ("_law_subsets", ["every"]), ("_law_atom_holds", ["formula", "shape", "values"]), ("_law_holds", ["formula", "shape", "values"]), ("law", ["script"])]
structure Fc (mg : Str → Option Value) : Prop where
  f_abs : mg "abs" = none
  f_all : mg "all" = none
  f_bool : mg "bool" = none
  f_dict : mg "dict" = none
  f_enumerate : mg "enumerate" = none
  f_int : mg "int" = none
  f_isinstance : mg "isinstance" = none
  f_len : mg "len" = none
  f_list : mg "list" = none
  f_range : mg "range" = none
  f_sorted : mg "sorted" = none
  f_str : mg "str" = none
  f_tuple : mg "tuple" = none
abbrev FnP (K : PySem.W.Frag) (x : Str) (i : Nat) (fd : FuncData) : Prop := FunD K x x (defArgs (top i)) (defBody (top i)) (defScope (top i)) [] [] (He.ga K x) fd
section
variable {P : Program} {w : World} {K : PySem.W.Frag} {mg : Str → Option Value} {base : Heap} {k : Nat} {Γ : Gam}
theorem s_all_elements : FnScope ["shape", "result", "waiting", "path", "current", "way", "child"] ["shape"] (defScope (top 1)) := ⟨rfl, rfl, rfl, by decide +kernel, rfl, by decide +kernel, by decide +kernel⟩
theorem w_all_elements (F : AllK P w K mg base sig k Γ) (fc : Fc mg) {fa : Addr} {cdv : Value} {A : Around} {outer : List PySem.Env} {s : Shared} {H : Hp} {E : XK} (hr : Room k (A.deeper (envOfC "all_elements" (defScope (top 1)) s.heap.objs.size fa cdv)))
    (hp : PassesOwn (model P w) (A.deeper (envOfC "all_elements" (defScope (top 1)) s.heap.objs.size fa cdv)) (envOfC "all_elements" (defScope (top 1)) s.heap.objs.size fa cdv) (cxOf (L2.CX P w) P w K mg base ["shape", "result", "waiting", "path", "current", "way", "child"] "all_elements" (defScope (top 1)) fa cdv A outer s H E).xe)
    (tk : Takes (cxOf (L2.CX P w) P w K mg base ["shape", "result", "waiting", "path", "current", "way", "child"] "all_elements" (defScope (top 1)) fa cdv A outer s H E) (WD E)) :
    GSs (cxOf (L2.CX P w) P w K mg base ["shape", "result", "waiting", "path", "current", "way", "child"] "all_elements" (defScope (top 1)) fa cdv A outer s H E) (WD E) (defBody (top 1)) (b_all_elements Γ) := by
  have nd : (["shape", "result", "waiting", "path", "current", "way", "child"] : List Str).Nodup := s_all_elements.nd
  have hu : (cxOf (L2.CX P w) P w K mg base ["shape", "result", "waiting", "path", "current", "way", "child"] "all_elements" (defScope (top 1)) fa cdv A outer s H E).A.units + 200 < cLine := by
    have := hr.un
    show (A.deeper (envOfC "all_elements" (defScope (top 1)) s.heap.objs.size fa cdv)).units + 200 < cLine
    omega
  have hu1 : (cxOf (L2.CX P w) P w K mg base ["shape", "result", "waiting", "path", "current", "way", "child"] "all_elements" (defScope (top 1)) fa cdv A outer s H E).A.units + 1 < cLine := by omega
  exact (gs_cons (gs_set 1 (ge_lstM ga_nil) nd)
    (gs_cons (gs_set 2 (ge_lstM (ga_cons (ge_tup (ga_cons (ge_tup ga_nil) (ga_cons (ge_var 0) ga_nil))) ga_nil)) nd)
    (gs_cons (gs_while hp (gt_tru (ge_var 2)) (gs_cons (gs_asg (ge_pop (ge_var 2)) (gg_tup rfl (ggs_cons (gg_name 3 nd) (ggs_cons (gg_name 4 nd) ggs_nil))))
    (gs_cons (gs_if (gt_tru (ge_var 4)) (gs_cons (gs_expr (ge_append (ge_var 1) (ge_tup (ga_cons (ge_var 3) (ga_cons (ge_var 4) ga_nil)))))
    (gs_cons (gs_for hp rfl (gi_enum (ge_cut (ge_var 4) (go_some ge_int) go_none) fc.f_enumerate) (gg_tup rfl (ggs_cons (gg_name 5 nd) (ggs_cons (gg_name 6 nd) ggs_nil))) (gs_cons (gs_expr (ge_append (ge_var 2) (ge_tup (ga_cons (ge_bin og_add (ge_var 3) (ge_tup (ga_cons (ge_var 5) ga_nil))) (ga_cons (ge_var 6) ga_nil)))))
    gs_nil))
    gs_nil)) gs_nil)
    gs_nil)))
    (gs_cons (gs_ret (ge_var 1))
    gs_nil))))
theorem k_all_elements {fd : FuncData} (F : AllK P w K mg base sig k Γ) (fc : Fc mg) (U : FnP K "all_elements" 1 fd) : FnOk P w K mg base (L2.CX P w) (k + 1) (He.ga K "all_elements") fd ["shape"] (spG K (d_all_elements Γ) 1) :=
  fn_G U s_all_elements (fun args h _ => .inr rfl) fun cdv A outer s H E hr hp tk => w_all_elements F fc hr hp tk
theorem s_paths : FnScope ["shape", "path", "_"] ["shape"] (defScope (top 2)) := ⟨rfl, rfl, rfl, by decide +kernel, rfl, by decide +kernel, by decide +kernel⟩
theorem w_paths (F : AllK P w K mg base sig k Γ) (fc : Fc mg) {fa : Addr} {cdv : Value} {A : Around} {outer : List PySem.Env} {s : Shared} {H : Hp} {E : XK} (hr : Room k (A.deeper (envOfC "paths" (defScope (top 2)) s.heap.objs.size fa cdv)))
    (hp : PassesOwn (model P w) (A.deeper (envOfC "paths" (defScope (top 2)) s.heap.objs.size fa cdv)) (envOfC "paths" (defScope (top 2)) s.heap.objs.size fa cdv) (cxOf (L2.CX P w) P w K mg base ["shape", "path", "_"] "paths" (defScope (top 2)) fa cdv A outer s H E).xe)
    (tk : Takes (cxOf (L2.CX P w) P w K mg base ["shape", "path", "_"] "paths" (defScope (top 2)) fa cdv A outer s H E) (WD E)) :
    GSs (cxOf (L2.CX P w) P w K mg base ["shape", "path", "_"] "paths" (defScope (top 2)) fa cdv A outer s H E) (WD E) (defBody (top 2)) (b_paths Γ) := by
  have nd : (["shape", "path", "_"] : List Str).Nodup := s_paths.nd
  have hu : (cxOf (L2.CX P w) P w K mg base ["shape", "path", "_"] "paths" (defScope (top 2)) fa cdv A outer s H E).A.units + 200 < cLine := by
    have := hr.un
    show (A.deeper (envOfC "paths" (defScope (top 2)) s.heap.objs.size fa cdv)).units + 200 < cLine
    omega
  have hu1 : (cxOf (L2.CX P w) P w K mg base ["shape", "path", "_"] "paths" (defScope (top 2)) fa cdv A outer s H E).A.units + 1 < cLine := by omega
  exact (gs_cons (gs_ret (ge_b1 (c1_sorted hu) (ge_lc fin_frozen [("path", 1), ("_", 2)] rfl nd (gi_seq (ge_fn (F 0 _ _ rfl) hr tk (gan_cons (ge_var 0) gan_nil))) (fun _ _ _ _ _ => (gc_tup rfl (gcs_cons (gc_name 1 nd) (gcs_cons (gc_name 2 nd) gcs_nil)))) (fun _ _ _ _ _ => gts_nil) (fun _ _ _ _ _ => (ge_var 1))) fc.f_sorted))
    gs_nil)
theorem k_paths {fd : FuncData} (F : AllK P w K mg base sig k Γ) (fc : Fc mg) (U : FnP K "paths" 2 fd) : FnOk P w K mg base (L2.CX P w) (k + 1) (He.ga K "paths") fd ["shape"] (spG K (d_paths Γ) 1) :=
  fn_G U s_paths (fun args h _ => .inl rfl) fun cdv A outer s H E hr hp tk => w_paths F fc hr hp tk
theorem s_label_at : FnScope ["shape", "path", "other", "current"] ["shape", "path"] (defScope (top 4)) := ⟨rfl, rfl, rfl, by decide +kernel, rfl, by decide +kernel, by decide +kernel⟩
theorem w_label_at (F : AllK P w K mg base sig k Γ) (fc : Fc mg) {fa : Addr} {cdv : Value} {A : Around} {outer : List PySem.Env} {s : Shared} {H : Hp} {E : XK} (hr : Room k (A.deeper (envOfC "label_at" (defScope (top 4)) s.heap.objs.size fa cdv)))
    (hp : PassesOwn (model P w) (A.deeper (envOfC "label_at" (defScope (top 4)) s.heap.objs.size fa cdv)) (envOfC "label_at" (defScope (top 4)) s.heap.objs.size fa cdv) (cxOf (L2.CX P w) P w K mg base ["shape", "path", "other", "current"] "label_at" (defScope (top 4)) fa cdv A outer s H E).xe)
    (tk : Takes (cxOf (L2.CX P w) P w K mg base ["shape", "path", "other", "current"] "label_at" (defScope (top 4)) fa cdv A outer s H E) (WD E)) :
    GSs (cxOf (L2.CX P w) P w K mg base ["shape", "path", "other", "current"] "label_at" (defScope (top 4)) fa cdv A outer s H E) (WD E) (defBody (top 4)) (b_label_at Γ) := by
  have nd : (["shape", "path", "other", "current"] : List Str).Nodup := s_label_at.nd
  have hu : (cxOf (L2.CX P w) P w K mg base ["shape", "path", "other", "current"] "label_at" (defScope (top 4)) fa cdv A outer s H E).A.units + 200 < cLine := by
    have := hr.un
    show (A.deeper (envOfC "label_at" (defScope (top 4)) s.heap.objs.size fa cdv)).units + 200 < cLine
    omega
  have hu1 : (cxOf (L2.CX P w) P w K mg base ["shape", "path", "other", "current"] "label_at" (defScope (top 4)) fa cdv A outer s H E).A.units + 1 < cLine := by omega
  exact (gs_cons (gs_for hp rfl (gi_seq (ge_fn (F 0 _ _ rfl) hr tk (gan_cons (ge_var 0) gan_nil))) (gg_tup rfl (ggs_cons (gg_name 2 nd) (ggs_cons (gg_name 3 nd) ggs_nil))) (gs_cons (gs_if (gt_cmp (og_eq hu) (ge_var 2) (ge_var 1)) (gs_cons (gs_ret (ge_ix hu1 (ge_var 3) ge_int))
    gs_nil) gs_nil)
    gs_nil))
    (gs_cons (gs_ret (ge_str []))
    gs_nil))
theorem k_label_at {fd : FuncData} (F : AllK P w K mg base sig k Γ) (fc : Fc mg) (U : FnP K "label_at" 4 fd) : FnOk P w K mg base (L2.CX P w) (k + 1) (He.ga K "label_at") fd ["shape", "path"] (spG K (d_label_at Γ) 2) :=
  fn_G U s_label_at (fun args h _ => .inl rfl) fun cdv A outer s H E hr hp tk => w_label_at F fc hr hp tk
theorem s_atom_holds : FnScope ["formula", "shape", "values", "word", "first", "second", "path"] ["formula", "shape", "values"] (defScope (top 5)) := ⟨rfl, rfl, rfl, by decide +kernel, rfl, by decide +kernel, by decide +kernel⟩
theorem w_atom_holds (F : AllK P w K mg base sig k Γ) (fc : Fc mg) {fa : Addr} {cdv : Value} {A : Around} {outer : List PySem.Env} {s : Shared} {H : Hp} {E : XK} (hr : Room k (A.deeper (envOfC "atom_holds" (defScope (top 5)) s.heap.objs.size fa cdv)))
    (hp : PassesOwn (model P w) (A.deeper (envOfC "atom_holds" (defScope (top 5)) s.heap.objs.size fa cdv)) (envOfC "atom_holds" (defScope (top 5)) s.heap.objs.size fa cdv) (cxOf (L2.CX P w) P w K mg base ["formula", "shape", "values", "word", "first", "second", "path"] "atom_holds" (defScope (top 5)) fa cdv A outer s H E).xe)
    (tk : Takes (cxOf (L2.CX P w) P w K mg base ["formula", "shape", "values", "word", "first", "second", "path"] "atom_holds" (defScope (top 5)) fa cdv A outer s H E) (WD E)) :
    GSs (cxOf (L2.CX P w) P w K mg base ["formula", "shape", "values", "word", "first", "second", "path"] "atom_holds" (defScope (top 5)) fa cdv A outer s H E) (WD E) (defBody (top 5)) (b_atom_holds Γ) := by
  have nd : (["formula", "shape", "values", "word", "first", "second", "path"] : List Str).Nodup := s_atom_holds.nd
  have hu : (cxOf (L2.CX P w) P w K mg base ["formula", "shape", "values", "word", "first", "second", "path"] "atom_holds" (defScope (top 5)) fa cdv A outer s H E).A.units + 200 < cLine := by
    have := hr.un
    show (A.deeper (envOfC "atom_holds" (defScope (top 5)) s.heap.objs.size fa cdv)).units + 200 < cLine
    omega
  have hu1 : (cxOf (L2.CX P w) P w K mg base ["formula", "shape", "values", "word", "first", "second", "path"] "atom_holds" (defScope (top 5)) fa cdv A outer s H E).A.units + 1 < cLine := by omega
  exact (gs_cons (gs_set 3 (ge_ix hu1 (ge_var 0) ge_int) nd)
    (gs_cons (gs_if (gt_cmp (og_eq hu) (ge_var 3) (ge_str [116, 114, 117, 101])) (gs_cons (gs_ret ge_bl)
    gs_nil) gs_nil)
    (gs_cons (gs_if (gt_cmp (og_eq hu) (ge_var 3) (ge_str [108, 97, 98, 101, 108])) (gs_cons (gs_ret (ge_cmp (og_eq hu) (ge_fn (F 2 _ _ rfl) hr tk (gan_cons (ge_var 1) (gan_cons (ge_ix hu1 (ge_var 2) (ge_ix hu1 (ge_var 0) ge_int)) gan_nil))) (ge_ix hu1 (ge_var 0) ge_int)))
    gs_nil) gs_nil)
    (gs_cons (gs_if (gt_cmp (og_eq hu) (ge_var 3) (ge_str [99, 104, 105, 108, 100])) (gs_cons (gs_ret (ge_cmp (og_eq hu) (ge_ix hu1 (ge_var 2) (ge_ix hu1 (ge_var 0) ge_int)) (ge_bin og_add (ge_ix hu1 (ge_var 2) (ge_ix hu1 (ge_var 0) ge_int)) (ge_tup (ga_cons (ge_ix hu1 (ge_var 0) ge_int) ga_nil)))))
    gs_nil) gs_nil)
    (gs_cons (gs_if (gt_cmp (og_eq hu) (ge_var 3) (ge_str [116, 111, 112])) (gs_cons (gs_ret (ge_cmp (og_eq hu) (ge_ix hu1 (ge_var 2) (ge_ix hu1 (ge_var 0) ge_int)) (ge_tup ga_nil)))
    gs_nil) gs_nil)
    (gs_cons (gs_asg (ge_tup (ga_cons (ge_ix hu1 (ge_var 2) (ge_ix hu1 (ge_var 0) ge_int)) (ga_cons (ge_ix hu1 (ge_var 2) (ge_ix hu1 (ge_var 0) ge_int)) ga_nil))) (gg_tup rfl (ggs_cons (gg_name 4 nd) (ggs_cons (gg_name 5 nd) ggs_nil))))
    (gs_cons (gs_if (gt_cmp (og_eq hu) (ge_var 3) (ge_str [98, 101, 108, 111, 119])) (gs_cons (gs_ret (ge_and (ge_cmp og_gt (ge_len (ge_var 5) fc.f_len) (ge_len (ge_var 4) fc.f_len)) (ge_one (ge_cmp (og_eq hu) (ge_cut (ge_var 5) go_none (go_some (ge_len (ge_var 4) fc.f_len))) (ge_var 4)))))
    gs_nil) gs_nil)
    (gs_cons (gs_if (gt_cmp (og_eq hu) (ge_var 3) (ge_str [115, 97, 109, 101])) (gs_cons (gs_ret (ge_cmp (og_eq hu) (ge_var 4) (ge_var 5)))
    gs_nil) gs_nil)
    (gs_cons (gs_if (gt_cmp (og_eq hu) (ge_var 3) (ge_str [105, 110])) (gs_cons (gs_ret (ge_cmp (og_in hu) (ge_var 4) (ge_var 5)))
    gs_nil) gs_nil)
    (gs_cons (gs_ret (ge_b1 (c1_all rfl) (ge_lc fin_frozen [("path", 6)] rfl nd (gi_seq (ge_var 4)) (fun _ _ _ _ _ => (gc_name 6 nd)) (fun _ _ _ _ _ => gts_nil) (fun _ _ _ _ _ => (ge_cmp (og_in hu) (ge_var 6) (ge_var 5)))) fc.f_all))
    gs_nil))))))))))
theorem k_atom_holds {fd : FuncData} (F : AllK P w K mg base sig k Γ) (fc : Fc mg) (U : FnP K "atom_holds" 5 fd) : FnOk P w K mg base (L2.CX P w) (k + 1) (He.ga K "atom_holds") fd ["formula", "shape", "values"] (spG K (d_atom_holds Γ) 3) :=
  fn_G U s_atom_holds (fun args h _ => .inl rfl) fun cdv A outer s H E hr hp tk => w_atom_holds F fc hr hp tk
theorem s_subsets : FnScope ["every", "result", "path", "one"] ["every"] (defScope (top 6)) := ⟨rfl, rfl, rfl, by decide +kernel, rfl, by decide +kernel, by decide +kernel⟩
theorem w_subsets (F : AllK P w K mg base sig k Γ) (fc : Fc mg) {fa : Addr} {cdv : Value} {A : Around} {outer : List PySem.Env} {s : Shared} {H : Hp} {E : XK} (hr : Room k (A.deeper (envOfC "subsets" (defScope (top 6)) s.heap.objs.size fa cdv)))
    (hp : PassesOwn (model P w) (A.deeper (envOfC "subsets" (defScope (top 6)) s.heap.objs.size fa cdv)) (envOfC "subsets" (defScope (top 6)) s.heap.objs.size fa cdv) (cxOf (L2.CX P w) P w K mg base ["every", "result", "path", "one"] "subsets" (defScope (top 6)) fa cdv A outer s H E).xe)
    (tk : Takes (cxOf (L2.CX P w) P w K mg base ["every", "result", "path", "one"] "subsets" (defScope (top 6)) fa cdv A outer s H E) (WD E)) :
    GSs (cxOf (L2.CX P w) P w K mg base ["every", "result", "path", "one"] "subsets" (defScope (top 6)) fa cdv A outer s H E) (WD E) (defBody (top 6)) (b_subsets Γ) := by
  have nd : (["every", "result", "path", "one"] : List Str).Nodup := s_subsets.nd
  have hu : (cxOf (L2.CX P w) P w K mg base ["every", "result", "path", "one"] "subsets" (defScope (top 6)) fa cdv A outer s H E).A.units + 200 < cLine := by
    have := hr.un
    show (A.deeper (envOfC "subsets" (defScope (top 6)) s.heap.objs.size fa cdv)).units + 200 < cLine
    omega
  have hu1 : (cxOf (L2.CX P w) P w K mg base ["every", "result", "path", "one"] "subsets" (defScope (top 6)) fa cdv A outer s H E).A.units + 1 < cLine := by omega
  exact (gs_cons (gs_set 1 (ge_lst (ga_cons (ge_tup ga_nil) ga_nil)) nd)
    (gs_cons (gs_for hp rfl (gi_seq (ge_var 0)) (gg_name 2 nd) (gs_cons (gs_set 1 (ge_bin og_add (ge_var 1) (ge_lc fin_frozen [("one", 3)] rfl nd (gi_seq (ge_var 1)) (fun _ _ _ _ _ => (gc_name 3 nd)) (fun _ _ _ _ _ => gts_nil) (fun _ _ _ _ _ => (ge_bin og_add (ge_var 3) (ge_tup (ga_cons (ge_var 2) ga_nil)))))) nd)
    gs_nil))
    (gs_cons (gs_ret (ge_var 1))
    gs_nil)))
theorem k_subsets {fd : FuncData} (F : AllK P w K mg base sig k Γ) (fc : Fc mg) (U : FnP K "subsets" 6 fd) : FnOk P w K mg base (L2.CX P w) (k + 1) (He.ga K "subsets") fd ["every"] (spG K (d_subsets Γ) 1) :=
  fn_G U s_subsets (fun args h _ => .inl rfl) fun cdv A outer s H E hr hp tk => w_subsets F fc hr hp tk
theorem s_with_value : FnScope ["values", "name", "value", "result"] ["values", "name", "value"] (defScope (top 7)) := ⟨rfl, rfl, rfl, by decide +kernel, rfl, by decide +kernel, by decide +kernel⟩
theorem w_with_value (F : AllK P w K mg base sig k Γ) (fc : Fc mg) {fa : Addr} {cdv : Value} {A : Around} {outer : List PySem.Env} {s : Shared} {H : Hp} {E : XK} (hr : Room k (A.deeper (envOfC "with_value" (defScope (top 7)) s.heap.objs.size fa cdv)))
    (hp : PassesOwn (model P w) (A.deeper (envOfC "with_value" (defScope (top 7)) s.heap.objs.size fa cdv)) (envOfC "with_value" (defScope (top 7)) s.heap.objs.size fa cdv) (cxOf (L2.CX P w) P w K mg base ["values", "name", "value", "result"] "with_value" (defScope (top 7)) fa cdv A outer s H E).xe)
    (tk : Takes (cxOf (L2.CX P w) P w K mg base ["values", "name", "value", "result"] "with_value" (defScope (top 7)) fa cdv A outer s H E) (WD E)) :
    GSs (cxOf (L2.CX P w) P w K mg base ["values", "name", "value", "result"] "with_value" (defScope (top 7)) fa cdv A outer s H E) (WD E) (defBody (top 7)) (b_with_value Γ) := by
  have nd : (["values", "name", "value", "result"] : List Str).Nodup := s_with_value.nd
  have hu : (cxOf (L2.CX P w) P w K mg base ["values", "name", "value", "result"] "with_value" (defScope (top 7)) fa cdv A outer s H E).A.units + 200 < cLine := by
    have := hr.un
    show (A.deeper (envOfC "with_value" (defScope (top 7)) s.heap.objs.size fa cdv)).units + 200 < cLine
    omega
  have hu1 : (cxOf (L2.CX P w) P w K mg base ["values", "name", "value", "result"] "with_value" (defScope (top 7)) fa cdv A outer s H E).A.units + 1 < cLine := by omega
  exact (gs_cons (gs_set 3 (ge_t1 c1_dict (ge_var 0) fc.f_dict) nd)
    (gs_cons (gs_asg (ge_var 2) (gg_sub hu1 (ge_var 3) (ge_var 1)))
    (gs_cons (gs_ret (ge_var 3))
    gs_nil)))
theorem k_with_value {fd : FuncData} (F : AllK P w K mg base sig k Γ) (fc : Fc mg) (U : FnP K "with_value" 7 fd) : FnOk P w K mg base (L2.CX P w) (k + 1) (He.ga K "with_value") fd ["values", "name", "value"] (spG K (d_with_value Γ) 3) :=
  fn_G U s_with_value (fun args h _ => .inl rfl) fun cdv A outer s H E hr hp tk => w_with_value F fc hr hp tk
theorem s_holds : FnScope ["formula", "shape", "values", "word", "every", "wanted", "value"] ["formula", "shape", "values"] (defScope (top 8)) := ⟨rfl, rfl, rfl, by decide +kernel, rfl, by decide +kernel, by decide +kernel⟩
theorem w_holds (F : AllK P w K mg base sig k Γ) (fc : Fc mg) {fa : Addr} {cdv : Value} {A : Around} {outer : List PySem.Env} {s : Shared} {H : Hp} {E : XK} (hr : Room k (A.deeper (envOfC "holds" (defScope (top 8)) s.heap.objs.size fa cdv)))
    (hp : PassesOwn (model P w) (A.deeper (envOfC "holds" (defScope (top 8)) s.heap.objs.size fa cdv)) (envOfC "holds" (defScope (top 8)) s.heap.objs.size fa cdv) (cxOf (L2.CX P w) P w K mg base ["formula", "shape", "values", "word", "every", "wanted", "value"] "holds" (defScope (top 8)) fa cdv A outer s H E).xe)
    (tk : Takes (cxOf (L2.CX P w) P w K mg base ["formula", "shape", "values", "word", "every", "wanted", "value"] "holds" (defScope (top 8)) fa cdv A outer s H E) (WD E)) :
    GSs (cxOf (L2.CX P w) P w K mg base ["formula", "shape", "values", "word", "every", "wanted", "value"] "holds" (defScope (top 8)) fa cdv A outer s H E) (WD E) (defBody (top 8)) (b_holds Γ) := by
  have nd : (["formula", "shape", "values", "word", "every", "wanted", "value"] : List Str).Nodup := s_holds.nd
  have hu : (cxOf (L2.CX P w) P w K mg base ["formula", "shape", "values", "word", "every", "wanted", "value"] "holds" (defScope (top 8)) fa cdv A outer s H E).A.units + 200 < cLine := by
    have := hr.un
    show (A.deeper (envOfC "holds" (defScope (top 8)) s.heap.objs.size fa cdv)).units + 200 < cLine
    omega
  have hu1 : (cxOf (L2.CX P w) P w K mg base ["formula", "shape", "values", "word", "every", "wanted", "value"] "holds" (defScope (top 8)) fa cdv A outer s H E).A.units + 1 < cLine := by omega
  exact (gs_cons (gs_set 3 (ge_ix hu1 (ge_var 0) ge_int) nd)
    (gs_cons (gs_if (gt_cmp (og_eq hu) (ge_var 3) (ge_str [110, 111, 116])) (gs_cons (gs_ret (ge_not (ge_fn (F 6 _ _ rfl) hr tk (gan_cons (ge_ix hu1 (ge_var 0) ge_int) (gan_cons (ge_var 1) (gan_cons (ge_var 2) gan_nil))))))
    gs_nil) gs_nil)
    (gs_cons (gs_if (gt_cmp (og_eq hu) (ge_var 3) (ge_str [97, 110, 100])) (gs_cons (gs_ret (ge_and (ge_fn (F 6 _ _ rfl) hr tk (gan_cons (ge_ix hu1 (ge_var 0) ge_int) (gan_cons (ge_var 1) (gan_cons (ge_var 2) gan_nil)))) (ge_one (ge_fn (F 6 _ _ rfl) hr tk (gan_cons (ge_ix hu1 (ge_var 0) ge_int) (gan_cons (ge_var 1) (gan_cons (ge_var 2) gan_nil)))))))
    gs_nil) gs_nil)
    (gs_cons (gs_if (gt_cmp (og_eq hu) (ge_var 3) (ge_str [111, 114])) (gs_cons (gs_ret (ge_or (ge_fn (F 6 _ _ rfl) hr tk (gan_cons (ge_ix hu1 (ge_var 0) ge_int) (gan_cons (ge_var 1) (gan_cons (ge_var 2) gan_nil)))) (ge_one (ge_fn (F 6 _ _ rfl) hr tk (gan_cons (ge_ix hu1 (ge_var 0) ge_int) (gan_cons (ge_var 1) (gan_cons (ge_var 2) gan_nil)))))))
    gs_nil) gs_nil)
    (gs_cons (gs_if (gt_cmp (og_in hu) (ge_var 3) (ge_tup (ga_cons (ge_str [115, 111, 109, 101]) (ga_cons (ge_str [97, 108, 108]) (ga_cons (ge_str [115, 111, 109, 101, 115, 101, 116]) (ga_cons (ge_str [97, 108, 108, 115, 101, 116]) ga_nil)))))) (gs_cons (gs_set 4 (ge_fn (F 1 _ _ rfl) hr tk (gan_cons (ge_var 1) gan_nil)) nd)
    (gs_cons (gs_if (gt_cmp (og_eq hu) (ge_cut (ge_var 3) (go_some (ge_neg ge_int)) go_none) (ge_str [115, 101, 116])) (gs_cons (gs_set 4 (ge_fn (F 4 _ _ rfl) hr tk (gan_cons (ge_var 4) gan_nil)) nd)
    gs_nil) gs_nil)
    (gs_cons (gs_set 5 (ge_cmp (og_eq hu) (ge_cut (ge_var 3) go_none (go_some ge_int)) (ge_str [115, 111, 109, 101])) nd)
    (gs_cons (gs_for hp rfl (gi_seq (ge_var 4)) (gg_name 6 nd) (gs_cons (gs_if (gt_cmp (og_eq hu) (ge_fn (F 6 _ _ rfl) hr tk (gan_cons (ge_ix hu1 (ge_var 0) ge_int) (gan_cons (ge_var 1) (gan_cons (ge_fn (F 5 _ _ rfl) hr tk (gan_cons (ge_var 2) (gan_cons (ge_ix hu1 (ge_var 0) ge_int) (gan_cons (ge_var 6) gan_nil)))) gan_nil)))) (ge_var 5)) (gs_cons (gs_ret (ge_var 5))
    gs_nil) gs_nil)
    gs_nil))
    (gs_cons (gs_ret (ge_not (ge_var 5)))
    gs_nil))))) gs_nil)
    (gs_cons (gs_ret (ge_fn (F 3 _ _ rfl) hr tk (gan_cons (ge_var 0) (gan_cons (ge_var 1) (gan_cons (ge_var 2) gan_nil)))))
    gs_nil))))))
theorem k_holds {fd : FuncData} (F : AllK P w K mg base sig k Γ) (fc : Fc mg) (U : FnP K "holds" 8 fd) : FnOk P w K mg base (L2.CX P w) (k + 1) (He.ga K "holds") fd ["formula", "shape", "values"] (spG K (d_holds Γ) 3) :=
  fn_G U s_holds (fun args h _ => .inr rfl) fun cdv A outer s H E hr hp tk => w_holds F fc hr hp tk
theorem s__law_tape : FnScope ["script", "cells", "seed", "cell"] ["script"] (defScope (top 10)) := ⟨rfl, rfl, rfl, by decide +kernel, rfl, by decide +kernel, by decide +kernel⟩
theorem w__law_tape (F : AllK P w K mg base sig k Γ) (fc : Fc mg) {fa : Addr} {cdv : Value} {A : Around} {outer : List PySem.Env} {s : Shared} {H : Hp} {E : XK} (hr : Room k (A.deeper (envOfC "_law_tape" (defScope (top 10)) s.heap.objs.size fa cdv)))
    (hp : PassesOwn (model P w) (A.deeper (envOfC "_law_tape" (defScope (top 10)) s.heap.objs.size fa cdv)) (envOfC "_law_tape" (defScope (top 10)) s.heap.objs.size fa cdv) (cxOf (L2.CX P w) P w K mg base ["script", "cells", "seed", "cell"] "_law_tape" (defScope (top 10)) fa cdv A outer s H E).xe)
    (tk : Takes (cxOf (L2.CX P w) P w K mg base ["script", "cells", "seed", "cell"] "_law_tape" (defScope (top 10)) fa cdv A outer s H E) (WD E)) :
    GSs (cxOf (L2.CX P w) P w K mg base ["script", "cells", "seed", "cell"] "_law_tape" (defScope (top 10)) fa cdv A outer s H E) (WD E) (defBody (top 10)) (b__law_tape Γ) := by
  have nd : (["script", "cells", "seed", "cell"] : List Str).Nodup := s__law_tape.nd
  have hu : (cxOf (L2.CX P w) P w K mg base ["script", "cells", "seed", "cell"] "_law_tape" (defScope (top 10)) fa cdv A outer s H E).A.units + 200 < cLine := by
    have := hr.un
    show (A.deeper (envOfC "_law_tape" (defScope (top 10)) s.heap.objs.size fa cdv)).units + 200 < cLine
    omega
  have hu1 : (cxOf (L2.CX P w) P w K mg base ["script", "cells", "seed", "cell"] "_law_tape" (defScope (top 10)) fa cdv A outer s H E).A.units + 1 < cLine := by omega
  exact (gs_cons (gs_setLc fin_frozen 1 [("cell", 3)] rfl nd (gi_seq (ge_var 0)) (fun _ _ _ _ _ => (gc_name 3 nd)) (fun _ _ _ _ _ => gts_nil) (fun _ _ _ _ _ => (ge_b1 c1_abs (ge_t1 c1_int (ge_var 3) fc.f_int) fc.f_abs)))
    (gs_cons (gs_set 2 ge_int nd)
    (gs_cons (gs_for hp rfl (gi_seq (ge_var 1)) (gg_name 3 nd) (gs_cons (gs_set 2 (ge_bin og_mod (ge_t1 c1_int (ge_bin og_add (ge_bin og_mul (ge_var 2) ge_int) (ge_var 3)) fc.f_int) ge_int) nd)
    gs_nil))
    (gs_cons (gs_ret (ge_disp (gps_cons (ge_str [99, 101, 108, 108, 115]) (ge_var 1) (gps_cons (ge_str [97, 116]) ge_int (gps_cons (ge_str [108, 101, 102, 116]) ge_int (gps_cons (ge_str [115, 101, 101, 100]) (ge_var 2) (gps_cons (ge_str [115, 97, 108, 116]) ge_int gps_nil)))))))
    gs_nil))))
theorem k__law_tape {fd : FuncData} (F : AllK P w K mg base sig k Γ) (fc : Fc mg) (U : FnP K "_law_tape" 10 fd) : FnOk P w K mg base (L2.CX P w) (k + 1) (He.ga K "_law_tape") fd ["script"] (spG K (d__law_tape Γ) 1) :=
  fn_G U s__law_tape (fun args h _ => .inl rfl) fun cdv A outer s H E hr hp tk => w__law_tape F fc hr hp tk
theorem s__law_take : FnScope ["tape", "many", "mixed", "drawn"] ["tape", "many"] (defScope (top 11)) := ⟨rfl, rfl, rfl, by decide +kernel, rfl, by decide +kernel, by decide +kernel⟩
theorem w__law_take (F : AllK P w K mg base sig k Γ) (fc : Fc mg) {fa : Addr} {cdv : Value} {A : Around} {outer : List PySem.Env} {s : Shared} {H : Hp} {E : XK} (hr : Room k (A.deeper (envOfC "_law_take" (defScope (top 11)) s.heap.objs.size fa cdv)))
    (hp : PassesOwn (model P w) (A.deeper (envOfC "_law_take" (defScope (top 11)) s.heap.objs.size fa cdv)) (envOfC "_law_take" (defScope (top 11)) s.heap.objs.size fa cdv) (cxOf (L2.CX P w) P w K mg base ["tape", "many", "mixed", "drawn"] "_law_take" (defScope (top 11)) fa cdv A outer s H E).xe)
    (tk : Takes (cxOf (L2.CX P w) P w K mg base ["tape", "many", "mixed", "drawn"] "_law_take" (defScope (top 11)) fa cdv A outer s H E) (WD E)) :
    GSs (cxOf (L2.CX P w) P w K mg base ["tape", "many", "mixed", "drawn"] "_law_take" (defScope (top 11)) fa cdv A outer s H E) (WD E) (defBody (top 11)) (b__law_take Γ) := by
  have nd : (["tape", "many", "mixed", "drawn"] : List Str).Nodup := s__law_take.nd
  have hu : (cxOf (L2.CX P w) P w K mg base ["tape", "many", "mixed", "drawn"] "_law_take" (defScope (top 11)) fa cdv A outer s H E).A.units + 200 < cLine := by
    have := hr.un
    show (A.deeper (envOfC "_law_take" (defScope (top 11)) s.heap.objs.size fa cdv)).units + 200 < cLine
    omega
  have hu1 : (cxOf (L2.CX P w) P w K mg base ["tape", "many", "mixed", "drawn"] "_law_take" (defScope (top 11)) fa cdv A outer s H E).A.units + 1 < cLine := by omega
  exact (gs_cons (gs_if (GW.pt (gw_and (gt_cmp (og_eq hu) (ge_ix hu1 (ge_var 0) (ge_str [108, 101, 102, 116])) ge_int) (gw_and1 (gt_cmp og_lt (ge_ix hu1 (ge_var 0) (ge_str [97, 116])) (ge_len (ge_ix hu1 (ge_var 0) (ge_str [99, 101, 108, 108, 115])) fc.f_len))))) (gs_cons (gs_asg (ge_ix hu1 (ge_ix hu1 (ge_var 0) (ge_str [99, 101, 108, 108, 115])) (ge_ix hu1 (ge_var 0) (ge_str [97, 116]))) (gg_sub hu1 (ge_var 0) (ge_str [108, 101, 102, 116])))
    (gs_cons (gs_asg (ge_bin og_add (ge_ix hu1 (ge_var 0) (ge_str [97, 116])) ge_int) (gg_sub hu1 (ge_var 0) (ge_str [97, 116])))
    gs_nil)) gs_nil)
    (gs_cons (gs_if (gt_cmp og_gt (ge_ix hu1 (ge_var 0) (ge_str [108, 101, 102, 116])) ge_int) (gs_cons (gs_set 3 (ge_bin og_mod (ge_t1 c1_int (ge_ix hu1 (ge_var 0) (ge_str [108, 101, 102, 116])) fc.f_int) (ge_var 1)) nd)
    (gs_cons (gs_asg (ge_bin og_div (ge_ix hu1 (ge_var 0) (ge_str [108, 101, 102, 116])) (ge_var 1)) (gg_sub hu1 (ge_var 0) (ge_str [108, 101, 102, 116])))
    (gs_cons (gs_ret (ge_var 3))
    gs_nil))) gs_nil)
    (gs_cons (gs_asg (ge_bin og_add (ge_ix hu1 (ge_var 0) (ge_str [115, 97, 108, 116])) ge_int) (gg_sub hu1 (ge_var 0) (ge_str [115, 97, 108, 116])))
    (gs_cons (gs_set 2 (ge_bin og_mod (ge_t1 c1_int (ge_bin og_add (ge_bin og_mul (ge_ix hu1 (ge_var 0) (ge_str [115, 101, 101, 100])) ge_int) (ge_bin og_mul (ge_ix hu1 (ge_var 0) (ge_str [115, 97, 108, 116])) ge_int)) fc.f_int) ge_int) nd)
    (gs_cons (gs_set 2 (ge_bin og_mod (ge_t1 c1_int (ge_bin og_add (ge_bin og_add (ge_bin og_mul (ge_var 2) (ge_var 2)) (ge_bin og_mul (ge_ix hu1 (ge_var 0) (ge_str [115, 97, 108, 116])) ge_int)) ge_int) fc.f_int) ge_int) nd)
    (gs_cons (gs_ret (ge_bin og_mod (ge_t1 c1_int (ge_var 2) fc.f_int) (ge_var 1)))
    gs_nil))))))
theorem k__law_take {fd : FuncData} (F : AllK P w K mg base sig k Γ) (fc : Fc mg) (U : FnP K "_law_take" 11 fd) : FnOk P w K mg base (L2.CX P w) (k + 1) (He.ga K "_law_take") fd ["tape", "many"] (spG K (d__law_take Γ) 2) :=
  fn_G U s__law_take (fun args h _ => .inl rfl) fun cdv A outer s H E hr hp tk => w__law_take F fc hr hp tk
theorem s__law_is_integer : FnScope ["actual"] ["actual"] (defScope (top 12)) := ⟨rfl, rfl, rfl, by decide +kernel, rfl, by decide +kernel, by decide +kernel⟩
theorem w__law_is_integer (F : AllK P w K mg base sig k Γ) (fc : Fc mg) {fa : Addr} {cdv : Value} {A : Around} {outer : List PySem.Env} {s : Shared} {H : Hp} {E : XK} (hr : Room k (A.deeper (envOfC "_law_is_integer" (defScope (top 12)) s.heap.objs.size fa cdv)))
    (hp : PassesOwn (model P w) (A.deeper (envOfC "_law_is_integer" (defScope (top 12)) s.heap.objs.size fa cdv)) (envOfC "_law_is_integer" (defScope (top 12)) s.heap.objs.size fa cdv) (cxOf (L2.CX P w) P w K mg base ["actual"] "_law_is_integer" (defScope (top 12)) fa cdv A outer s H E).xe)
    (tk : Takes (cxOf (L2.CX P w) P w K mg base ["actual"] "_law_is_integer" (defScope (top 12)) fa cdv A outer s H E) (WD E)) :
    GSs (cxOf (L2.CX P w) P w K mg base ["actual"] "_law_is_integer" (defScope (top 12)) fa cdv A outer s H E) (WD E) (defBody (top 12)) (b__law_is_integer Γ) := by
  have nd : (["actual"] : List Str).Nodup := s__law_is_integer.nd
  have hu : (cxOf (L2.CX P w) P w K mg base ["actual"] "_law_is_integer" (defScope (top 12)) fa cdv A outer s H E).A.units + 200 < cLine := by
    have := hr.un
    show (A.deeper (envOfC "_law_is_integer" (defScope (top 12)) s.heap.objs.size fa cdv)).units + 200 < cLine
    omega
  have hu1 : (cxOf (L2.CX P w) P w K mg base ["actual"] "_law_is_integer" (defScope (top 12)) fa cdv A outer s H E).A.units + 1 < cLine := by omega
  exact (gs_cons (gs_ret (ge_and (ge_isi .int (ge_var 0) fc.f_isinstance fc.f_int) (ge_one (ge_not (ge_isi .bool (ge_var 0) fc.f_isinstance fc.f_bool)))))
    gs_nil)
theorem k__law_is_integer {fd : FuncData} (F : AllK P w K mg base sig k Γ) (fc : Fc mg) (U : FnP K "_law_is_integer" 12 fd) : FnOk P w K mg base (L2.CX P w) (k + 1) (He.ga K "_law_is_integer") fd ["actual"] (spG K (d__law_is_integer Γ) 1) :=
  fn_G U s__law_is_integer (fun args h _ => .inl rfl) fun cdv A outer s H E hr hp tk => w__law_is_integer F fc hr hp tk
theorem s__law_same_items : FnScope ["actual", "expected", "k"] ["actual", "expected"] (defScope (top 13)) := ⟨rfl, rfl, rfl, by decide +kernel, rfl, by decide +kernel, by decide +kernel⟩
theorem w__law_same_items (F : AllK P w K mg base sig k Γ) (fc : Fc mg) {fa : Addr} {cdv : Value} {A : Around} {outer : List PySem.Env} {s : Shared} {H : Hp} {E : XK} (hr : Room k (A.deeper (envOfC "_law_same_items" (defScope (top 13)) s.heap.objs.size fa cdv)))
    (hp : PassesOwn (model P w) (A.deeper (envOfC "_law_same_items" (defScope (top 13)) s.heap.objs.size fa cdv)) (envOfC "_law_same_items" (defScope (top 13)) s.heap.objs.size fa cdv) (cxOf (L2.CX P w) P w K mg base ["actual", "expected", "k"] "_law_same_items" (defScope (top 13)) fa cdv A outer s H E).xe)
    (tk : Takes (cxOf (L2.CX P w) P w K mg base ["actual", "expected", "k"] "_law_same_items" (defScope (top 13)) fa cdv A outer s H E) (WD E)) :
    GSs (cxOf (L2.CX P w) P w K mg base ["actual", "expected", "k"] "_law_same_items" (defScope (top 13)) fa cdv A outer s H E) (WD E) (defBody (top 13)) (b__law_same_items Γ) := by
  have nd : (["actual", "expected", "k"] : List Str).Nodup := s__law_same_items.nd
  have hu : (cxOf (L2.CX P w) P w K mg base ["actual", "expected", "k"] "_law_same_items" (defScope (top 13)) fa cdv A outer s H E).A.units + 200 < cLine := by
    have := hr.un
    show (A.deeper (envOfC "_law_same_items" (defScope (top 13)) s.heap.objs.size fa cdv)).units + 200 < cLine
    omega
  have hu1 : (cxOf (L2.CX P w) P w K mg base ["actual", "expected", "k"] "_law_same_items" (defScope (top 13)) fa cdv A outer s H E).A.units + 1 < cLine := by omega
  exact (gs_cons (gs_if (gt_cmp (og_ne hu) (ge_len (ge_var 0) fc.f_len) (ge_len (ge_var 1) fc.f_len)) (gs_cons (gs_ret ge_bl)
    gs_nil) gs_nil)
    (gs_cons (gs_for hp rfl (gi_range1 (ge_len (ge_var 1) fc.f_len) fc.f_range) (gg_name 2 nd) (gs_cons (gs_if (gt_not (gt_tru (ge_fn (F 11 _ _ rfl) hr tk (gan_cons (ge_ix hu1 (ge_var 0) (ge_var 2)) (gan_cons (ge_ix hu1 (ge_var 1) (ge_var 2)) gan_nil))))) (gs_cons (gs_ret ge_bl)
    gs_nil) gs_nil)
    gs_nil))
    (gs_cons (gs_ret ge_bl)
    gs_nil)))
theorem k__law_same_items {fd : FuncData} (F : AllK P w K mg base sig k Γ) (fc : Fc mg) (U : FnP K "_law_same_items" 13 fd) : FnOk P w K mg base (L2.CX P w) (k + 1) (He.ga K "_law_same_items") fd ["actual", "expected"] (spG K (d__law_same_items Γ) 2) :=
  fn_G U s__law_same_items (fun args h _ => .inl rfl) fun cdv A outer s H E hr hp tk => w__law_same_items F fc hr hp tk
theorem s__law_same : FnScope ["actual", "expected", "key"] ["actual", "expected"] (defScope (top 14)) := ⟨rfl, rfl, rfl, by decide +kernel, rfl, by decide +kernel, by decide +kernel⟩
theorem w__law_same (F : AllK P w K mg base sig k Γ) (fc : Fc mg) {fa : Addr} {cdv : Value} {A : Around} {outer : List PySem.Env} {s : Shared} {H : Hp} {E : XK} (hr : Room k (A.deeper (envOfC "_law_same" (defScope (top 14)) s.heap.objs.size fa cdv)))
    (hp : PassesOwn (model P w) (A.deeper (envOfC "_law_same" (defScope (top 14)) s.heap.objs.size fa cdv)) (envOfC "_law_same" (defScope (top 14)) s.heap.objs.size fa cdv) (cxOf (L2.CX P w) P w K mg base ["actual", "expected", "key"] "_law_same" (defScope (top 14)) fa cdv A outer s H E).xe)
    (tk : Takes (cxOf (L2.CX P w) P w K mg base ["actual", "expected", "key"] "_law_same" (defScope (top 14)) fa cdv A outer s H E) (WD E)) :
    GSs (cxOf (L2.CX P w) P w K mg base ["actual", "expected", "key"] "_law_same" (defScope (top 14)) fa cdv A outer s H E) (WD E) (defBody (top 14)) (b__law_same Γ) := by
  have nd : (["actual", "expected", "key"] : List Str).Nodup := s__law_same.nd
  have hu : (cxOf (L2.CX P w) P w K mg base ["actual", "expected", "key"] "_law_same" (defScope (top 14)) fa cdv A outer s H E).A.units + 200 < cLine := by
    have := hr.un
    show (A.deeper (envOfC "_law_same" (defScope (top 14)) s.heap.objs.size fa cdv)).units + 200 < cLine
    omega
  have hu1 : (cxOf (L2.CX P w) P w K mg base ["actual", "expected", "key"] "_law_same" (defScope (top 14)) fa cdv A outer s H E).A.units + 1 < cLine := by omega
  exact (gs_cons (gs_if (gt_cmp og_isN (ge_var 1) ge_non) (gs_cons (gs_ret (ge_cmp og_isN (ge_var 0) ge_non))
    gs_nil) gs_nil)
    (gs_cons (gs_if (gt_tru (ge_isi .bool (ge_var 1) fc.f_isinstance fc.f_bool)) (gs_cons (gs_ret (ge_and (ge_isi .bool (ge_var 0) fc.f_isinstance fc.f_bool) (ge_one (ge_cmp (og_eq hu) (ge_var 0) (ge_var 1)))))
    gs_nil) gs_nil)
    (gs_cons (gs_if (gt_tru (ge_isi .int (ge_var 1) fc.f_isinstance fc.f_int)) (gs_cons (gs_ret (ge_and (ge_fn (F 9 _ _ rfl) hr tk (gan_cons (ge_var 0) gan_nil)) (ge_one (ge_cmp (og_eq hu) (ge_var 0) (ge_var 1)))))
    gs_nil) gs_nil)
    (gs_cons (gs_if (gt_tru (ge_isi .str (ge_var 1) fc.f_isinstance fc.f_str)) (gs_cons (gs_ret (ge_and (ge_isi .str (ge_var 0) fc.f_isinstance fc.f_str) (ge_one (ge_cmp (og_eq hu) (ge_var 0) (ge_var 1)))))
    gs_nil) gs_nil)
    (gs_cons (gs_if (gt_tru (ge_isi .tuple (ge_var 1) fc.f_isinstance fc.f_tuple)) (gs_cons (gs_ret (ge_and (ge_isi .tuple (ge_var 0) fc.f_isinstance fc.f_tuple) (ge_one (ge_fn (F 10 _ _ rfl) hr tk (gan_cons (ge_var 0) (gan_cons (ge_var 1) gan_nil))))))
    gs_nil) gs_nil)
    (gs_cons (gs_if (gt_tru (ge_isi .list (ge_var 1) fc.f_isinstance fc.f_list)) (gs_cons (gs_ret (ge_and (ge_isi .list (ge_var 0) fc.f_isinstance fc.f_list) (ge_one (ge_fn (F 10 _ _ rfl) hr tk (gan_cons (ge_var 0) (gan_cons (ge_var 1) gan_nil))))))
    gs_nil) gs_nil)
    (gs_cons (gs_if (GW.pt (gw_or (gt_not (gt_tru (ge_isi .dict (ge_var 0) fc.f_isinstance fc.f_dict))) (gw_or1 (gt_cmp (og_ne hu) (ge_len (ge_var 0) fc.f_len) (ge_len (ge_var 1) fc.f_len))))) (gs_cons (gs_ret ge_bl)
    gs_nil) gs_nil)
    (gs_cons (gs_for hp rfl (gi_seq (ge_var 1)) (gg_name 2 nd) (gs_cons (gs_if (GW.pt (gw_or (gt_cmp (og_notIn hu) (ge_var 2) (ge_var 0)) (gw_or1 (gt_not (gt_tru (ge_fn (F 11 _ _ rfl) hr tk (gan_cons (ge_ix hu1 (ge_var 0) (ge_var 2)) (gan_cons (ge_ix hu1 (ge_var 1) (ge_var 2)) gan_nil)))))))) (gs_cons (gs_ret ge_bl)
    gs_nil) gs_nil)
    gs_nil))
    (gs_cons (gs_for hp rfl (gi_seq (ge_var 0)) (gg_name 2 nd) (gs_cons (gs_if (gt_tru (ge_isi .bool (ge_var 2) fc.f_isinstance fc.f_bool)) (gs_cons (gs_ret ge_bl)
    gs_nil) gs_nil)
    gs_nil))
    (gs_cons (gs_ret ge_bl)
    gs_nil))))))))))
theorem k__law_same {fd : FuncData} (F : AllK P w K mg base sig k Γ) (fc : Fc mg) (U : FnP K "_law_same" 14 fd) : FnOk P w K mg base (L2.CX P w) (k + 1) (He.ga K "_law_same") fd ["actual", "expected"] (spG K (d__law_same Γ) 2) :=
  fn_G U s__law_same (fun args h _ => .inl rfl) fun cdv A outer s H E hr hp tk => w__law_same F fc hr hp tk
theorem s__law_kind : FnScope ["tape", "labels"] ["tape"] (defScope (top 15)) := ⟨rfl, rfl, rfl, by decide +kernel, rfl, by decide +kernel, by decide +kernel⟩
theorem w__law_kind (F : AllK P w K mg base sig k Γ) (fc : Fc mg) {fa : Addr} {cdv : Value} {A : Around} {outer : List PySem.Env} {s : Shared} {H : Hp} {E : XK} (hr : Room k (A.deeper (envOfC "_law_kind" (defScope (top 15)) s.heap.objs.size fa cdv)))
    (hp : PassesOwn (model P w) (A.deeper (envOfC "_law_kind" (defScope (top 15)) s.heap.objs.size fa cdv)) (envOfC "_law_kind" (defScope (top 15)) s.heap.objs.size fa cdv) (cxOf (L2.CX P w) P w K mg base ["tape", "labels"] "_law_kind" (defScope (top 15)) fa cdv A outer s H E).xe)
    (tk : Takes (cxOf (L2.CX P w) P w K mg base ["tape", "labels"] "_law_kind" (defScope (top 15)) fa cdv A outer s H E) (WD E)) :
    GSs (cxOf (L2.CX P w) P w K mg base ["tape", "labels"] "_law_kind" (defScope (top 15)) fa cdv A outer s H E) (WD E) (defBody (top 15)) (b__law_kind Γ) := by
  have nd : (["tape", "labels"] : List Str).Nodup := s__law_kind.nd
  have hu : (cxOf (L2.CX P w) P w K mg base ["tape", "labels"] "_law_kind" (defScope (top 15)) fa cdv A outer s H E).A.units + 200 < cLine := by
    have := hr.un
    show (A.deeper (envOfC "_law_kind" (defScope (top 15)) s.heap.objs.size fa cdv)).units + 200 < cLine
    omega
  have hu1 : (cxOf (L2.CX P w) P w K mg base ["tape", "labels"] "_law_kind" (defScope (top 15)) fa cdv A outer s H E).A.units + 1 < cLine := by omega
  exact (gs_cons (gs_set 1 (ge_ix hu1 (ge_tup (ga_cons (ge_tup (ga_cons (ge_str [97]) ga_nil)) (ga_cons (ge_tup (ga_cons (ge_str [97]) (ga_cons (ge_str [98]) ga_nil))) (ga_cons (ge_tup (ga_cons (ge_str [97]) (ga_cons (ge_str [98]) ga_nil))) (ga_cons (ge_tup (ga_cons (ge_str [98]) (ga_cons (ge_str [100]) (ga_cons (ge_str [122]) ga_nil)))) ga_nil))))) (ge_fn (F 8 _ _ rfl) hr tk (gan_cons (ge_var 0) (gan_cons ge_int gan_nil)))) nd)
    (gs_cons (gs_ret (ge_tup (ga_cons (ge_bin og_add ge_int (ge_bin og_div (ge_fn (F 8 _ _ rfl) hr tk (gan_cons (ge_var 0) (gan_cons ge_int gan_nil))) ge_int)) (ga_cons (ge_var 1) ga_nil))))
    gs_nil))
theorem k__law_kind {fd : FuncData} (F : AllK P w K mg base sig k Γ) (fc : Fc mg) (U : FnP K "_law_kind" 15 fd) : FnOk P w K mg base (L2.CX P w) (k + 1) (He.ga K "_law_kind") fd ["tape"] (spG K (d__law_kind Γ) 1) :=
  fn_G U s__law_kind (fun args h _ => .inl rfl) fun cdv A outer s H E hr hp tk => w__law_kind F fc hr hp tk
theorem s__law_shape : FnScope ["tape", "kind", "count", "label", "left"] ["tape", "kind", "count"] (defScope (top 16)) := ⟨rfl, rfl, rfl, by decide +kernel, rfl, by decide +kernel, by decide +kernel⟩
theorem w__law_shape (F : AllK P w K mg base sig k Γ) (fc : Fc mg) {fa : Addr} {cdv : Value} {A : Around} {outer : List PySem.Env} {s : Shared} {H : Hp} {E : XK} (hr : Room k (A.deeper (envOfC "_law_shape" (defScope (top 16)) s.heap.objs.size fa cdv)))
    (hp : PassesOwn (model P w) (A.deeper (envOfC "_law_shape" (defScope (top 16)) s.heap.objs.size fa cdv)) (envOfC "_law_shape" (defScope (top 16)) s.heap.objs.size fa cdv) (cxOf (L2.CX P w) P w K mg base ["tape", "kind", "count", "label", "left"] "_law_shape" (defScope (top 16)) fa cdv A outer s H E).xe)
    (tk : Takes (cxOf (L2.CX P w) P w K mg base ["tape", "kind", "count", "label", "left"] "_law_shape" (defScope (top 16)) fa cdv A outer s H E) (WD E)) :
    GSs (cxOf (L2.CX P w) P w K mg base ["tape", "kind", "count", "label", "left"] "_law_shape" (defScope (top 16)) fa cdv A outer s H E) (WD E) (defBody (top 16)) (b__law_shape Γ) := by
  have nd : (["tape", "kind", "count", "label", "left"] : List Str).Nodup := s__law_shape.nd
  have hu : (cxOf (L2.CX P w) P w K mg base ["tape", "kind", "count", "label", "left"] "_law_shape" (defScope (top 16)) fa cdv A outer s H E).A.units + 200 < cLine := by
    have := hr.un
    show (A.deeper (envOfC "_law_shape" (defScope (top 16)) s.heap.objs.size fa cdv)).units + 200 < cLine
    omega
  have hu1 : (cxOf (L2.CX P w) P w K mg base ["tape", "kind", "count", "label", "left"] "_law_shape" (defScope (top 16)) fa cdv A outer s H E).A.units + 1 < cLine := by omega
  exact (gs_cons (gs_if (gt_cmp (og_eq hu) (ge_var 2) ge_int) (gs_cons (gs_ret (ge_tup ga_nil))
    gs_nil) gs_nil)
    (gs_cons (gs_set 3 (ge_ix hu1 (ge_ix hu1 (ge_var 1) ge_int) (ge_fn (F 8 _ _ rfl) hr tk (gan_cons (ge_var 0) (gan_cons (ge_len (ge_ix hu1 (ge_var 1) ge_int) fc.f_len) gan_nil)))) nd)
    (gs_cons (gs_if (gt_cmp (og_eq hu) (ge_ix hu1 (ge_var 1) ge_int) ge_int) (gs_cons (gs_ret (ge_tup (ga_cons (ge_var 3) (ga_cons (ge_fn (F 13 _ _ rfl) hr tk (gan_cons (ge_var 0) (gan_cons (ge_var 1) (gan_cons (ge_bin og_sub (ge_var 2) ge_int) gan_nil)))) ga_nil))))
    gs_nil) gs_nil)
    (gs_cons (gs_set 4 (ge_fn (F 8 _ _ rfl) hr tk (gan_cons (ge_var 0) (gan_cons (ge_var 2) gan_nil))) nd)
    (gs_cons (gs_ret (ge_tup (ga_cons (ge_var 3) (ga_cons (ge_fn (F 13 _ _ rfl) hr tk (gan_cons (ge_var 0) (gan_cons (ge_var 1) (gan_cons (ge_var 4) gan_nil)))) (ga_cons (ge_fn (F 13 _ _ rfl) hr tk (gan_cons (ge_var 0) (gan_cons (ge_var 1) (gan_cons (ge_bin og_sub (ge_bin og_sub (ge_var 2) ge_int) (ge_var 4)) gan_nil)))) ga_nil)))))
    gs_nil)))))
theorem k__law_shape {fd : FuncData} (F : AllK P w K mg base sig k Γ) (fc : Fc mg) (U : FnP K "_law_shape" 16 fd) : FnOk P w K mg base (L2.CX P w) (k + 1) (He.ga K "_law_shape") fd ["tape", "kind", "count"] (spG K (d__law_shape Γ) 3) :=
  fn_G U s__law_shape (fun args h _ => .inl rfl) fun cdv A outer s H E hr hp tk => w__law_shape F fc hr hp tk
theorem s__law_paths : FnScope ["shape", "path", "found", "way"] ["shape", "path"] (defScope (top 17)) := ⟨rfl, rfl, rfl, by decide +kernel, rfl, by decide +kernel, by decide +kernel⟩
theorem w__law_paths (F : AllK P w K mg base sig k Γ) (fc : Fc mg) {fa : Addr} {cdv : Value} {A : Around} {outer : List PySem.Env} {s : Shared} {H : Hp} {E : XK} (hr : Room k (A.deeper (envOfC "_law_paths" (defScope (top 17)) s.heap.objs.size fa cdv)))
    (hp : PassesOwn (model P w) (A.deeper (envOfC "_law_paths" (defScope (top 17)) s.heap.objs.size fa cdv)) (envOfC "_law_paths" (defScope (top 17)) s.heap.objs.size fa cdv) (cxOf (L2.CX P w) P w K mg base ["shape", "path", "found", "way"] "_law_paths" (defScope (top 17)) fa cdv A outer s H E).xe)
    (tk : Takes (cxOf (L2.CX P w) P w K mg base ["shape", "path", "found", "way"] "_law_paths" (defScope (top 17)) fa cdv A outer s H E) (WD E)) :
    GSs (cxOf (L2.CX P w) P w K mg base ["shape", "path", "found", "way"] "_law_paths" (defScope (top 17)) fa cdv A outer s H E) (WD E) (defBody (top 17)) (b__law_paths Γ) := by
  have nd : (["shape", "path", "found", "way"] : List Str).Nodup := s__law_paths.nd
  have hu : (cxOf (L2.CX P w) P w K mg base ["shape", "path", "found", "way"] "_law_paths" (defScope (top 17)) fa cdv A outer s H E).A.units + 200 < cLine := by
    have := hr.un
    show (A.deeper (envOfC "_law_paths" (defScope (top 17)) s.heap.objs.size fa cdv)).units + 200 < cLine
    omega
  have hu1 : (cxOf (L2.CX P w) P w K mg base ["shape", "path", "found", "way"] "_law_paths" (defScope (top 17)) fa cdv A outer s H E).A.units + 1 < cLine := by omega
  exact (gs_cons (gs_if (gt_cmp (og_eq hu) (ge_var 0) (ge_tup ga_nil)) (gs_cons (gs_ret (ge_lst ga_nil))
    gs_nil) gs_nil)
    (gs_cons (gs_set 2 (ge_lst (ga_cons (ge_var 1) ga_nil)) nd)
    (gs_cons (gs_for hp rfl (gi_range1 (ge_bin og_sub (ge_len (ge_var 0) fc.f_len) ge_int) fc.f_range) (gg_name 3 nd) (gs_cons (gs_set 2 (ge_bin og_add (ge_var 2) (ge_fn (F 14 _ _ rfl) hr tk (gan_cons (ge_ix hu1 (ge_var 0) (ge_bin og_add (ge_var 3) ge_int)) (gan_cons (ge_bin og_add (ge_var 1) (ge_tup (ga_cons (ge_var 3) ga_nil))) gan_nil)))) nd)
    gs_nil))
    (gs_cons (gs_ret (ge_var 2))
    gs_nil))))
theorem k__law_paths {fd : FuncData} (F : AllK P w K mg base sig k Γ) (fc : Fc mg) (U : FnP K "_law_paths" 17 fd) : FnOk P w K mg base (L2.CX P w) (k + 1) (He.ga K "_law_paths") fd ["shape", "path"] (spG K (d__law_paths Γ) 2) :=
  fn_G U s__law_paths (fun args h _ => .inl rfl) fun cdv A outer s H E hr hp tk => w__law_paths F fc hr hp tk
theorem s__law_part : FnScope ["shape", "path", "way"] ["shape", "path"] (defScope (top 18)) := ⟨rfl, rfl, rfl, by decide +kernel, rfl, by decide +kernel, by decide +kernel⟩
theorem w__law_part (F : AllK P w K mg base sig k Γ) (fc : Fc mg) {fa : Addr} {cdv : Value} {A : Around} {outer : List PySem.Env} {s : Shared} {H : Hp} {E : XK} (hr : Room k (A.deeper (envOfC "_law_part" (defScope (top 18)) s.heap.objs.size fa cdv)))
    (hp : PassesOwn (model P w) (A.deeper (envOfC "_law_part" (defScope (top 18)) s.heap.objs.size fa cdv)) (envOfC "_law_part" (defScope (top 18)) s.heap.objs.size fa cdv) (cxOf (L2.CX P w) P w K mg base ["shape", "path", "way"] "_law_part" (defScope (top 18)) fa cdv A outer s H E).xe)
    (tk : Takes (cxOf (L2.CX P w) P w K mg base ["shape", "path", "way"] "_law_part" (defScope (top 18)) fa cdv A outer s H E) (WD E)) :
    GSs (cxOf (L2.CX P w) P w K mg base ["shape", "path", "way"] "_law_part" (defScope (top 18)) fa cdv A outer s H E) (WD E) (defBody (top 18)) (b__law_part Γ) := by
  have nd : (["shape", "path", "way"] : List Str).Nodup := s__law_part.nd
  have hu : (cxOf (L2.CX P w) P w K mg base ["shape", "path", "way"] "_law_part" (defScope (top 18)) fa cdv A outer s H E).A.units + 200 < cLine := by
    have := hr.un
    show (A.deeper (envOfC "_law_part" (defScope (top 18)) s.heap.objs.size fa cdv)).units + 200 < cLine
    omega
  have hu1 : (cxOf (L2.CX P w) P w K mg base ["shape", "path", "way"] "_law_part" (defScope (top 18)) fa cdv A outer s H E).A.units + 1 < cLine := by omega
  exact (gs_cons (gs_for hp rfl (gi_seq (ge_var 1)) (gg_name 2 nd) (gs_cons (gs_set 0 (ge_ix hu1 (ge_var 0) (ge_bin og_add (ge_var 2) ge_int)) nd)
    gs_nil))
    (gs_cons (gs_ret (ge_var 0))
    gs_nil))
theorem k__law_part {fd : FuncData} (F : AllK P w K mg base sig k Γ) (fc : Fc mg) (U : FnP K "_law_part" 18 fd) : FnOk P w K mg base (L2.CX P w) (k + 1) (He.ga K "_law_part") fd ["shape", "path"] (spG K (d__law_part Γ) 2) :=
  fn_G U s__law_part (fun args h _ => .inl rfl) fun cdv A outer s H E hr hp tk => w__law_part F fc hr hp tk
theorem s__law_atom : FnScope ["tape", "kind", "singles", "sets", "choice", "x", "y"] ["tape", "kind", "singles", "sets"] (defScope (top 19)) := ⟨rfl, rfl, rfl, by decide +kernel, rfl, by decide +kernel, by decide +kernel⟩
theorem w__law_atom (F : AllK P w K mg base sig k Γ) (fc : Fc mg) {fa : Addr} {cdv : Value} {A : Around} {outer : List PySem.Env} {s : Shared} {H : Hp} {E : XK} (hr : Room k (A.deeper (envOfC "_law_atom" (defScope (top 19)) s.heap.objs.size fa cdv)))
    (hp : PassesOwn (model P w) (A.deeper (envOfC "_law_atom" (defScope (top 19)) s.heap.objs.size fa cdv)) (envOfC "_law_atom" (defScope (top 19)) s.heap.objs.size fa cdv) (cxOf (L2.CX P w) P w K mg base ["tape", "kind", "singles", "sets", "choice", "x", "y"] "_law_atom" (defScope (top 19)) fa cdv A outer s H E).xe)
    (tk : Takes (cxOf (L2.CX P w) P w K mg base ["tape", "kind", "singles", "sets", "choice", "x", "y"] "_law_atom" (defScope (top 19)) fa cdv A outer s H E) (WD E)) :
    GSs (cxOf (L2.CX P w) P w K mg base ["tape", "kind", "singles", "sets", "choice", "x", "y"] "_law_atom" (defScope (top 19)) fa cdv A outer s H E) (WD E) (defBody (top 19)) (b__law_atom Γ) := by
  have nd : (["tape", "kind", "singles", "sets", "choice", "x", "y"] : List Str).Nodup := s__law_atom.nd
  have hu : (cxOf (L2.CX P w) P w K mg base ["tape", "kind", "singles", "sets", "choice", "x", "y"] "_law_atom" (defScope (top 19)) fa cdv A outer s H E).A.units + 200 < cLine := by
    have := hr.un
    show (A.deeper (envOfC "_law_atom" (defScope (top 19)) s.heap.objs.size fa cdv)).units + 200 < cLine
    omega
  have hu1 : (cxOf (L2.CX P w) P w K mg base ["tape", "kind", "singles", "sets", "choice", "x", "y"] "_law_atom" (defScope (top 19)) fa cdv A outer s H E).A.units + 1 < cLine := by omega
  exact (gs_cons (gs_set 4 (ge_fn (F 8 _ _ rfl) hr tk (gan_cons (ge_var 0) (gan_cons ge_int gan_nil))) nd)
    (gs_cons (gs_if (GW.pt (gw_and (gt_cmp (og_ne hu) (ge_var 3) (ge_lst ga_nil)) (gw_and1 (GW.pt (gw_or (gt_cmp og_lt (ge_var 4) ge_int) (gw_or1 (gt_cmp (og_eq hu) (ge_var 2) (ge_lst ga_nil)))))))) (gs_cons (gs_if (GW.pt (gw_or (gt_cmp (og_eq hu) (ge_var 2) (ge_lst ga_nil)) (gw_or1 (gt_cmp (og_eq hu) (ge_var 4) ge_int)))) (gs_cons (gs_ret (ge_tup (ga_cons (ge_str [105, 110, 115, 105, 100, 101]) (ga_cons (ge_ix hu1 (ge_var 3) (ge_fn (F 8 _ _ rfl) hr tk (gan_cons (ge_var 0) (gan_cons (ge_len (ge_var 3) fc.f_len) gan_nil)))) (ga_cons (ge_ix hu1 (ge_var 3) (ge_fn (F 8 _ _ rfl) hr tk (gan_cons (ge_var 0) (gan_cons (ge_len (ge_var 3) fc.f_len) gan_nil)))) ga_nil)))))
    gs_nil) gs_nil)
    (gs_cons (gs_ret (ge_tup (ga_cons (ge_str [105, 110]) (ga_cons (ge_ix hu1 (ge_var 2) (ge_fn (F 8 _ _ rfl) hr tk (gan_cons (ge_var 0) (gan_cons (ge_len (ge_var 2) fc.f_len) gan_nil)))) (ga_cons (ge_ix hu1 (ge_var 3) (ge_fn (F 8 _ _ rfl) hr tk (gan_cons (ge_var 0) (gan_cons (ge_len (ge_var 3) fc.f_len) gan_nil)))) ga_nil)))))
    gs_nil)) gs_nil)
    (gs_cons (gs_if (gt_cmp (og_eq hu) (ge_var 2) (ge_lst ga_nil)) (gs_cons (gs_ret (ge_tup (ga_cons (ge_str [116, 114, 117, 101]) ga_nil)))
    gs_nil) gs_nil)
    (gs_cons (gs_set 5 (ge_ix hu1 (ge_var 2) (ge_fn (F 8 _ _ rfl) hr tk (gan_cons (ge_var 0) (gan_cons (ge_len (ge_var 2) fc.f_len) gan_nil)))) nd)
    (gs_cons (gs_set 6 (ge_ix hu1 (ge_var 2) (ge_fn (F 8 _ _ rfl) hr tk (gan_cons (ge_var 0) (gan_cons (ge_len (ge_var 2) fc.f_len) gan_nil)))) nd)
    (gs_cons (gs_if (gt_cmp og_lt (ge_var 4) ge_int) (gs_cons (gs_ret (ge_tup (ga_cons (ge_str [108, 97, 98, 101, 108]) (ga_cons (ge_ix hu1 (ge_ix hu1 (ge_var 1) ge_int) (ge_fn (F 8 _ _ rfl) hr tk (gan_cons (ge_var 0) (gan_cons (ge_len (ge_ix hu1 (ge_var 1) ge_int) fc.f_len) gan_nil)))) (ga_cons (ge_var 5) ga_nil)))))
    gs_nil) gs_nil)
    (gs_cons (gs_if (gt_cmp (og_eq hu) (ge_var 4) ge_int) (gs_cons (gs_ret (ge_tup (ga_cons (ge_str [116, 111, 112]) (ga_cons (ge_var 5) ga_nil))))
    gs_nil) gs_nil)
    (gs_cons (gs_if (gt_cmp (og_eq hu) (ge_var 4) ge_int) (gs_cons (gs_ret (ge_tup (ga_cons (ge_str [115, 97, 109, 101]) (ga_cons (ge_var 5) (ga_cons (ge_var 6) ga_nil)))))
    gs_nil) gs_nil)
    (gs_cons (gs_ret (ge_if (gt_cmp og_lt (ge_var 4) ge_int) (ge_tup (ga_cons (ge_str [99, 104, 105, 108, 100]) (ga_cons (ge_fn (F 8 _ _ rfl) hr tk (gan_cons (ge_var 0) (gan_cons (ge_ix hu1 (ge_var 1) ge_int) gan_nil))) (ga_cons (ge_var 5) (ga_cons (ge_var 6) ga_nil))))) (ge_tup (ga_cons (ge_str [98, 101, 108, 111, 119]) (ga_cons (ge_var 5) (ga_cons (ge_var 6) ga_nil))))))
    gs_nil)))))))))
theorem k__law_atom {fd : FuncData} (F : AllK P w K mg base sig k Γ) (fc : Fc mg) (U : FnP K "_law_atom" 19 fd) : FnOk P w K mg base (L2.CX P w) (k + 1) (He.ga K "_law_atom") fd ["tape", "kind", "singles", "sets"] (spG K (d__law_atom Γ) 4) :=
  fn_G U s__law_atom (fun args h _ => .inl rfl) fun cdv A outer s H E hr hp tk => w__law_atom F fc hr hp tk
theorem s__law_matrix : FnScope ["tape", "kind", "singles", "sets", "depth", "choice", "word", "name", "left"] ["tape", "kind", "singles", "sets", "depth"] (defScope (top 20)) := ⟨rfl, rfl, rfl, by decide +kernel, rfl, by decide +kernel, by decide +kernel⟩
theorem w__law_matrix (F : AllK P w K mg base sig k Γ) (fc : Fc mg) {fa : Addr} {cdv : Value} {A : Around} {outer : List PySem.Env} {s : Shared} {H : Hp} {E : XK} (hr : Room k (A.deeper (envOfC "_law_matrix" (defScope (top 20)) s.heap.objs.size fa cdv)))
    (hp : PassesOwn (model P w) (A.deeper (envOfC "_law_matrix" (defScope (top 20)) s.heap.objs.size fa cdv)) (envOfC "_law_matrix" (defScope (top 20)) s.heap.objs.size fa cdv) (cxOf (L2.CX P w) P w K mg base ["tape", "kind", "singles", "sets", "depth", "choice", "word", "name", "left"] "_law_matrix" (defScope (top 20)) fa cdv A outer s H E).xe)
    (tk : Takes (cxOf (L2.CX P w) P w K mg base ["tape", "kind", "singles", "sets", "depth", "choice", "word", "name", "left"] "_law_matrix" (defScope (top 20)) fa cdv A outer s H E) (WD E)) :
    GSs (cxOf (L2.CX P w) P w K mg base ["tape", "kind", "singles", "sets", "depth", "choice", "word", "name", "left"] "_law_matrix" (defScope (top 20)) fa cdv A outer s H E) (WD E) (defBody (top 20)) (b__law_matrix Γ) := by
  have nd : (["tape", "kind", "singles", "sets", "depth", "choice", "word", "name", "left"] : List Str).Nodup := s__law_matrix.nd
  have hu : (cxOf (L2.CX P w) P w K mg base ["tape", "kind", "singles", "sets", "depth", "choice", "word", "name", "left"] "_law_matrix" (defScope (top 20)) fa cdv A outer s H E).A.units + 200 < cLine := by
    have := hr.un
    show (A.deeper (envOfC "_law_matrix" (defScope (top 20)) s.heap.objs.size fa cdv)).units + 200 < cLine
    omega
  have hu1 : (cxOf (L2.CX P w) P w K mg base ["tape", "kind", "singles", "sets", "depth", "choice", "word", "name", "left"] "_law_matrix" (defScope (top 20)) fa cdv A outer s H E).A.units + 1 < cLine := by omega
  exact (gs_cons (gs_set 5 (ge_if (gt_cmp og_gt (ge_var 4) ge_int) (ge_fn (F 8 _ _ rfl) hr tk (gan_cons (ge_var 0) (gan_cons ge_int gan_nil))) ge_int) nd)
    (gs_cons (gs_if (gt_cmp og_lt (ge_var 5) ge_int) (gs_cons (gs_ret (ge_fn (F 16 _ _ rfl) hr tk (gan_cons (ge_var 0) (gan_cons (ge_var 1) (gan_cons (ge_var 2) (gan_cons (ge_var 3) gan_nil))))))
    gs_nil) gs_nil)
    (gs_cons (gs_if (gt_cmp (og_eq hu) (ge_var 5) ge_int) (gs_cons (gs_ret (ge_tup (ga_cons (ge_str [110, 111, 116]) (ga_cons (ge_fn (F 17 _ _ rfl) hr tk (gan_cons (ge_var 0) (gan_cons (ge_var 1) (gan_cons (ge_var 2) (gan_cons (ge_var 3) (gan_cons (ge_bin og_sub (ge_var 4) ge_int) gan_nil)))))) ga_nil))))
    gs_nil) gs_nil)
    (gs_cons (gs_if (gt_cmp og_lt (ge_var 5) ge_int) (gs_cons (gs_set 6 (ge_ix hu1 (ge_lst (ga_cons (ge_str [97, 110, 100]) (ga_cons (ge_str [111, 114]) ga_nil))) (ge_fn (F 8 _ _ rfl) hr tk (gan_cons (ge_var 0) (gan_cons ge_int gan_nil)))) nd)
    (gs_cons (gs_set 8 (ge_fn (F 17 _ _ rfl) hr tk (gan_cons (ge_var 0) (gan_cons (ge_var 1) (gan_cons (ge_var 2) (gan_cons (ge_var 3) (gan_cons (ge_bin og_sub (ge_var 4) ge_int) gan_nil)))))) nd)
    (gs_cons (gs_ret (ge_tup (ga_cons (ge_var 6) (ga_cons (ge_var 8) (ga_cons (ge_fn (F 17 _ _ rfl) hr tk (gan_cons (ge_var 0) (gan_cons (ge_var 1) (gan_cons (ge_var 2) (gan_cons (ge_var 3) (gan_cons (ge_bin og_sub (ge_var 4) ge_int) gan_nil)))))) ga_nil)))))
    gs_nil))) gs_nil)
    (gs_cons (gs_set 6 (ge_ix hu1 (ge_lst (ga_cons (ge_str [115, 111, 109, 101]) (ga_cons (ge_str [97, 108, 108]) ga_nil))) (ge_fn (F 8 _ _ rfl) hr tk (gan_cons (ge_var 0) (gan_cons ge_int gan_nil)))) nd)
    (gs_cons (gs_set 7 (ge_ix hu1 (ge_lst (ga_cons (ge_str [120]) (ga_cons (ge_str [121]) (ga_cons (ge_str [122]) ga_nil)))) (ge_fn (F 8 _ _ rfl) hr tk (gan_cons (ge_var 0) (gan_cons ge_int gan_nil)))) nd)
    (gs_cons (gs_ret (ge_tup (ga_cons (ge_var 6) (ga_cons (ge_var 7) (ga_cons (ge_fn (F 17 _ _ rfl) hr tk (gan_cons (ge_var 0) (gan_cons (ge_var 1) (gan_cons (ge_bin og_add (ge_var 2) (ge_lst (ga_cons (ge_var 7) ga_nil))) (gan_cons (ge_var 3) (gan_cons (ge_bin og_sub (ge_var 4) ge_int) gan_nil)))))) ga_nil)))))
    gs_nil)))))))
theorem k__law_matrix {fd : FuncData} (F : AllK P w K mg base sig k Γ) (fc : Fc mg) (U : FnP K "_law_matrix" 20 fd) : FnOk P w K mg base (L2.CX P w) (k + 1) (He.ga K "_law_matrix") fd ["tape", "kind", "singles", "sets", "depth"] (spG K (d__law_matrix Γ) 5) :=
  fn_G U s__law_matrix (fun args h _ => .inl rfl) fun cdv A outer s H E hr hp tk => w__law_matrix F fc hr hp tk
theorem s__law_closed : FnScope ["tape", "formula", "singles", "sets", "name"] ["tape", "formula", "singles", "sets"] (defScope (top 21)) := ⟨rfl, rfl, rfl, by decide +kernel, rfl, by decide +kernel, by decide +kernel⟩
theorem w__law_closed (F : AllK P w K mg base sig k Γ) (fc : Fc mg) {fa : Addr} {cdv : Value} {A : Around} {outer : List PySem.Env} {s : Shared} {H : Hp} {E : XK} (hr : Room k (A.deeper (envOfC "_law_closed" (defScope (top 21)) s.heap.objs.size fa cdv)))
    (hp : PassesOwn (model P w) (A.deeper (envOfC "_law_closed" (defScope (top 21)) s.heap.objs.size fa cdv)) (envOfC "_law_closed" (defScope (top 21)) s.heap.objs.size fa cdv) (cxOf (L2.CX P w) P w K mg base ["tape", "formula", "singles", "sets", "name"] "_law_closed" (defScope (top 21)) fa cdv A outer s H E).xe)
    (tk : Takes (cxOf (L2.CX P w) P w K mg base ["tape", "formula", "singles", "sets", "name"] "_law_closed" (defScope (top 21)) fa cdv A outer s H E) (WD E)) :
    GSs (cxOf (L2.CX P w) P w K mg base ["tape", "formula", "singles", "sets", "name"] "_law_closed" (defScope (top 21)) fa cdv A outer s H E) (WD E) (defBody (top 21)) (b__law_closed Γ) := by
  have nd : (["tape", "formula", "singles", "sets", "name"] : List Str).Nodup := s__law_closed.nd
  have hu : (cxOf (L2.CX P w) P w K mg base ["tape", "formula", "singles", "sets", "name"] "_law_closed" (defScope (top 21)) fa cdv A outer s H E).A.units + 200 < cLine := by
    have := hr.un
    show (A.deeper (envOfC "_law_closed" (defScope (top 21)) s.heap.objs.size fa cdv)).units + 200 < cLine
    omega
  have hu1 : (cxOf (L2.CX P w) P w K mg base ["tape", "formula", "singles", "sets", "name"] "_law_closed" (defScope (top 21)) fa cdv A outer s H E).A.units + 1 < cLine := by omega
  exact (gs_cons (gs_for hp rfl (gi_seq (ge_var 2)) (gg_name 4 nd) (gs_cons (gs_set 1 (ge_tup (ga_cons (ge_ix hu1 (ge_lst (ga_cons (ge_str [115, 111, 109, 101]) (ga_cons (ge_str [97, 108, 108]) ga_nil))) (ge_fn (F 8 _ _ rfl) hr tk (gan_cons (ge_var 0) (gan_cons ge_int gan_nil)))) (ga_cons (ge_var 4) (ga_cons (ge_var 1) ga_nil)))) nd)
    gs_nil))
    (gs_cons (gs_for hp rfl (gi_seq (ge_var 3)) (gg_name 4 nd) (gs_cons (gs_set 1 (ge_tup (ga_cons (ge_ix hu1 (ge_lst (ga_cons (ge_str [115, 111, 109, 101, 115, 101, 116]) (ga_cons (ge_str [97, 108, 108, 115, 101, 116]) ga_nil))) (ge_fn (F 8 _ _ rfl) hr tk (gan_cons (ge_var 0) (gan_cons ge_int gan_nil)))) (ga_cons (ge_var 4) (ga_cons (ge_var 1) ga_nil)))) nd)
    gs_nil))
    (gs_cons (gs_ret (ge_var 1))
    gs_nil)))
theorem k__law_closed {fd : FuncData} (F : AllK P w K mg base sig k Γ) (fc : Fc mg) (U : FnP K "_law_closed" 21 fd) : FnOk P w K mg base (L2.CX P w) (k + 1) (He.ga K "_law_closed") fd ["tape", "formula", "singles", "sets"] (spG K (d__law_closed Γ) 4) :=
  fn_G U s__law_closed (fun args h _ => .inl rfl) fun cdv A outer s H E hr hp tk => w__law_closed F fc hr hp tk
theorem s__law_sentence : FnScope ["tape", "kind", "depth", "singles", "sets"] ["tape", "kind", "depth"] (defScope (top 22)) := ⟨rfl, rfl, rfl, by decide +kernel, rfl, by decide +kernel, by decide +kernel⟩
theorem w__law_sentence (F : AllK P w K mg base sig k Γ) (fc : Fc mg) {fa : Addr} {cdv : Value} {A : Around} {outer : List PySem.Env} {s : Shared} {H : Hp} {E : XK} (hr : Room k (A.deeper (envOfC "_law_sentence" (defScope (top 22)) s.heap.objs.size fa cdv)))
    (hp : PassesOwn (model P w) (A.deeper (envOfC "_law_sentence" (defScope (top 22)) s.heap.objs.size fa cdv)) (envOfC "_law_sentence" (defScope (top 22)) s.heap.objs.size fa cdv) (cxOf (L2.CX P w) P w K mg base ["tape", "kind", "depth", "singles", "sets"] "_law_sentence" (defScope (top 22)) fa cdv A outer s H E).xe)
    (tk : Takes (cxOf (L2.CX P w) P w K mg base ["tape", "kind", "depth", "singles", "sets"] "_law_sentence" (defScope (top 22)) fa cdv A outer s H E) (WD E)) :
    GSs (cxOf (L2.CX P w) P w K mg base ["tape", "kind", "depth", "singles", "sets"] "_law_sentence" (defScope (top 22)) fa cdv A outer s H E) (WD E) (defBody (top 22)) (b__law_sentence Γ) := by
  have nd : (["tape", "kind", "depth", "singles", "sets"] : List Str).Nodup := s__law_sentence.nd
  have hu : (cxOf (L2.CX P w) P w K mg base ["tape", "kind", "depth", "singles", "sets"] "_law_sentence" (defScope (top 22)) fa cdv A outer s H E).A.units + 200 < cLine := by
    have := hr.un
    show (A.deeper (envOfC "_law_sentence" (defScope (top 22)) s.heap.objs.size fa cdv)).units + 200 < cLine
    omega
  have hu1 : (cxOf (L2.CX P w) P w K mg base ["tape", "kind", "depth", "singles", "sets"] "_law_sentence" (defScope (top 22)) fa cdv A outer s H E).A.units + 1 < cLine := by omega
  exact (gs_cons (gs_set 3 (ge_cut (ge_lst (ga_cons (ge_str [120]) (ga_cons (ge_str [121]) ga_nil))) go_none (go_some (ge_bin og_add ge_int (ge_fn (F 8 _ _ rfl) hr tk (gan_cons (ge_var 0) (gan_cons ge_int gan_nil)))))) nd)
    (gs_cons (gs_set 4 (ge_cut (ge_lst (ga_cons (ge_str [88]) ga_nil)) go_none (go_some (ge_bin og_div (ge_fn (F 8 _ _ rfl) hr tk (gan_cons (ge_var 0) (gan_cons ge_int gan_nil))) ge_int))) nd)
    (gs_cons (gs_ret (ge_fn (F 18 _ _ rfl) hr tk (gan_cons (ge_var 0) (gan_cons (ge_fn (F 17 _ _ rfl) hr tk (gan_cons (ge_var 0) (gan_cons (ge_var 1) (gan_cons (ge_var 3) (gan_cons (ge_var 4) (gan_cons (ge_var 2) gan_nil)))))) (gan_cons (ge_var 3) (gan_cons (ge_var 4) gan_nil))))))
    gs_nil)))
theorem k__law_sentence {fd : FuncData} (F : AllK P w K mg base sig k Γ) (fc : Fc mg) (U : FnP K "_law_sentence" 22 fd) : FnOk P w K mg base (L2.CX P w) (k + 1) (He.ga K "_law_sentence") fd ["tape", "kind", "depth"] (spG K (d__law_sentence Γ) 3) :=
  fn_G U s__law_sentence (fun args h _ => .inl rfl) fun cdv A outer s H E hr hp tk => w__law_sentence F fc hr hp tk
theorem s__law_subsets : FnScope ["every", "found", "path", "one"] ["every"] (defScope (top 23)) := ⟨rfl, rfl, rfl, by decide +kernel, rfl, by decide +kernel, by decide +kernel⟩
theorem w__law_subsets (F : AllK P w K mg base sig k Γ) (fc : Fc mg) {fa : Addr} {cdv : Value} {A : Around} {outer : List PySem.Env} {s : Shared} {H : Hp} {E : XK} (hr : Room k (A.deeper (envOfC "_law_subsets" (defScope (top 23)) s.heap.objs.size fa cdv)))
    (hp : PassesOwn (model P w) (A.deeper (envOfC "_law_subsets" (defScope (top 23)) s.heap.objs.size fa cdv)) (envOfC "_law_subsets" (defScope (top 23)) s.heap.objs.size fa cdv) (cxOf (L2.CX P w) P w K mg base ["every", "found", "path", "one"] "_law_subsets" (defScope (top 23)) fa cdv A outer s H E).xe)
    (tk : Takes (cxOf (L2.CX P w) P w K mg base ["every", "found", "path", "one"] "_law_subsets" (defScope (top 23)) fa cdv A outer s H E) (WD E)) :
    GSs (cxOf (L2.CX P w) P w K mg base ["every", "found", "path", "one"] "_law_subsets" (defScope (top 23)) fa cdv A outer s H E) (WD E) (defBody (top 23)) (b__law_subsets Γ) := by
  have nd : (["every", "found", "path", "one"] : List Str).Nodup := s__law_subsets.nd
  have hu : (cxOf (L2.CX P w) P w K mg base ["every", "found", "path", "one"] "_law_subsets" (defScope (top 23)) fa cdv A outer s H E).A.units + 200 < cLine := by
    have := hr.un
    show (A.deeper (envOfC "_law_subsets" (defScope (top 23)) s.heap.objs.size fa cdv)).units + 200 < cLine
    omega
  have hu1 : (cxOf (L2.CX P w) P w K mg base ["every", "found", "path", "one"] "_law_subsets" (defScope (top 23)) fa cdv A outer s H E).A.units + 1 < cLine := by omega
  exact (gs_cons (gs_set 1 (ge_lst (ga_cons (ge_tup ga_nil) ga_nil)) nd)
    (gs_cons (gs_for hp rfl (gi_seq (ge_var 0)) (gg_name 2 nd) (gs_cons (gs_set 1 (ge_bin og_add (ge_var 1) (ge_lc fin_frozen [("one", 3)] rfl nd (gi_seq (ge_var 1)) (fun _ _ _ _ _ => (gc_name 3 nd)) (fun _ _ _ _ _ => gts_nil) (fun _ _ _ _ _ => (ge_bin og_add (ge_var 3) (ge_tup (ga_cons (ge_var 2) ga_nil)))))) nd)
    gs_nil))
    (gs_cons (gs_ret (ge_var 1))
    gs_nil)))
theorem k__law_subsets {fd : FuncData} (F : AllK P w K mg base sig k Γ) (fc : Fc mg) (U : FnP K "_law_subsets" 23 fd) : FnOk P w K mg base (L2.CX P w) (k + 1) (He.ga K "_law_subsets") fd ["every"] (spG K (d__law_subsets Γ) 1) :=
  fn_G U s__law_subsets (fun args h _ => .inl rfl) fun cdv A outer s H E hr hp tk => w__law_subsets F fc hr hp tk
theorem s__law_atom_holds : FnScope ["formula", "shape", "values", "word", "one", "two", "path"] ["formula", "shape", "values"] (defScope (top 24)) := ⟨rfl, rfl, rfl, by decide +kernel, rfl, by decide +kernel, by decide +kernel⟩
theorem w__law_atom_holds (F : AllK P w K mg base sig k Γ) (fc : Fc mg) {fa : Addr} {cdv : Value} {A : Around} {outer : List PySem.Env} {s : Shared} {H : Hp} {E : XK} (hr : Room k (A.deeper (envOfC "_law_atom_holds" (defScope (top 24)) s.heap.objs.size fa cdv)))
    (hp : PassesOwn (model P w) (A.deeper (envOfC "_law_atom_holds" (defScope (top 24)) s.heap.objs.size fa cdv)) (envOfC "_law_atom_holds" (defScope (top 24)) s.heap.objs.size fa cdv) (cxOf (L2.CX P w) P w K mg base ["formula", "shape", "values", "word", "one", "two", "path"] "_law_atom_holds" (defScope (top 24)) fa cdv A outer s H E).xe)
    (tk : Takes (cxOf (L2.CX P w) P w K mg base ["formula", "shape", "values", "word", "one", "two", "path"] "_law_atom_holds" (defScope (top 24)) fa cdv A outer s H E) (WD E)) :
    GSs (cxOf (L2.CX P w) P w K mg base ["formula", "shape", "values", "word", "one", "two", "path"] "_law_atom_holds" (defScope (top 24)) fa cdv A outer s H E) (WD E) (defBody (top 24)) (b__law_atom_holds Γ) := by
  have nd : (["formula", "shape", "values", "word", "one", "two", "path"] : List Str).Nodup := s__law_atom_holds.nd
  have hu : (cxOf (L2.CX P w) P w K mg base ["formula", "shape", "values", "word", "one", "two", "path"] "_law_atom_holds" (defScope (top 24)) fa cdv A outer s H E).A.units + 200 < cLine := by
    have := hr.un
    show (A.deeper (envOfC "_law_atom_holds" (defScope (top 24)) s.heap.objs.size fa cdv)).units + 200 < cLine
    omega
  have hu1 : (cxOf (L2.CX P w) P w K mg base ["formula", "shape", "values", "word", "one", "two", "path"] "_law_atom_holds" (defScope (top 24)) fa cdv A outer s H E).A.units + 1 < cLine := by omega
  exact (gs_cons (gs_set 3 (ge_ix hu1 (ge_var 0) ge_int) nd)
    (gs_cons (gs_if (gt_cmp (og_eq hu) (ge_var 3) (ge_str [116, 114, 117, 101])) (gs_cons (gs_ret ge_bl)
    gs_nil) gs_nil)
    (gs_cons (gs_if (gt_cmp (og_eq hu) (ge_var 3) (ge_str [108, 97, 98, 101, 108])) (gs_cons (gs_ret (ge_cmp (og_eq hu) (ge_ix hu1 (ge_fn (F 15 _ _ rfl) hr tk (gan_cons (ge_var 1) (gan_cons (ge_ix hu1 (ge_var 2) (ge_ix hu1 (ge_var 0) ge_int)) gan_nil))) ge_int) (ge_ix hu1 (ge_var 0) ge_int)))
    gs_nil) gs_nil)
    (gs_cons (gs_if (gt_cmp (og_eq hu) (ge_var 3) (ge_str [116, 111, 112])) (gs_cons (gs_ret (ge_cmp (og_eq hu) (ge_ix hu1 (ge_var 2) (ge_ix hu1 (ge_var 0) ge_int)) (ge_tup ga_nil)))
    gs_nil) gs_nil)
    (gs_cons (gs_set 4 (ge_ix hu1 (ge_var 2) (ge_ix hu1 (ge_var 0) (ge_neg ge_int))) nd)
    (gs_cons (gs_set 5 (ge_ix hu1 (ge_var 2) (ge_ix hu1 (ge_var 0) (ge_neg ge_int))) nd)
    (gs_cons (gs_if (gt_cmp (og_eq hu) (ge_var 3) (ge_str [99, 104, 105, 108, 100])) (gs_cons (gs_ret (ge_cmp (og_eq hu) (ge_var 5) (ge_bin og_add (ge_var 4) (ge_tup (ga_cons (ge_ix hu1 (ge_var 0) ge_int) ga_nil)))))
    gs_nil) gs_nil)
    (gs_cons (gs_if (gt_cmp (og_eq hu) (ge_var 3) (ge_str [98, 101, 108, 111, 119])) (gs_cons (gs_ret (ge_and (ge_cmp og_gt (ge_len (ge_var 5) fc.f_len) (ge_len (ge_var 4) fc.f_len)) (ge_one (ge_cmp (og_eq hu) (ge_cut (ge_var 5) go_none (go_some (ge_len (ge_var 4) fc.f_len))) (ge_var 4)))))
    gs_nil) gs_nil)
    (gs_cons (gs_if (gt_cmp (og_eq hu) (ge_var 3) (ge_str [115, 97, 109, 101])) (gs_cons (gs_ret (ge_cmp (og_eq hu) (ge_var 4) (ge_var 5)))
    gs_nil) gs_nil)
    (gs_cons (gs_if (gt_cmp (og_eq hu) (ge_var 3) (ge_str [105, 110])) (gs_cons (gs_ret (ge_cmp (og_in hu) (ge_var 4) (ge_var 5)))
    gs_nil) gs_nil)
    (gs_cons (gs_ret (ge_cmp (og_eq hu) (ge_lc fin_frozen [("path", 6)] rfl nd (gi_seq (ge_var 4)) (fun _ _ _ _ _ => (gc_name 6 nd)) (fun _ _ _ _ _ => (gts_one (gt_cmp (og_notIn hu) (ge_var 6) (ge_var 5)))) (fun _ _ _ _ _ => (ge_var 6))) (ge_lst ga_nil)))
    gs_nil)))))))))))
theorem k__law_atom_holds {fd : FuncData} (F : AllK P w K mg base sig k Γ) (fc : Fc mg) (U : FnP K "_law_atom_holds" 24 fd) : FnOk P w K mg base (L2.CX P w) (k + 1) (He.ga K "_law_atom_holds") fd ["formula", "shape", "values"] (spG K (d__law_atom_holds Γ) 3) :=
  fn_G U s__law_atom_holds (fun args h _ => .inl rfl) fun cdv A outer s H E hr hp tk => w__law_atom_holds F fc hr hp tk
theorem s__law_holds : FnScope ["formula", "shape", "values", "word", "every", "wanted", "value", "more"] ["formula", "shape", "values"] (defScope (top 25)) := ⟨rfl, rfl, rfl, by decide +kernel, rfl, by decide +kernel, by decide +kernel⟩
theorem w__law_holds (F : AllK P w K mg base sig k Γ) (fc : Fc mg) {fa : Addr} {cdv : Value} {A : Around} {outer : List PySem.Env} {s : Shared} {H : Hp} {E : XK} (hr : Room k (A.deeper (envOfC "_law_holds" (defScope (top 25)) s.heap.objs.size fa cdv)))
    (hp : PassesOwn (model P w) (A.deeper (envOfC "_law_holds" (defScope (top 25)) s.heap.objs.size fa cdv)) (envOfC "_law_holds" (defScope (top 25)) s.heap.objs.size fa cdv) (cxOf (L2.CX P w) P w K mg base ["formula", "shape", "values", "word", "every", "wanted", "value", "more"] "_law_holds" (defScope (top 25)) fa cdv A outer s H E).xe)
    (tk : Takes (cxOf (L2.CX P w) P w K mg base ["formula", "shape", "values", "word", "every", "wanted", "value", "more"] "_law_holds" (defScope (top 25)) fa cdv A outer s H E) (WD E)) :
    GSs (cxOf (L2.CX P w) P w K mg base ["formula", "shape", "values", "word", "every", "wanted", "value", "more"] "_law_holds" (defScope (top 25)) fa cdv A outer s H E) (WD E) (defBody (top 25)) (b__law_holds Γ) := by
  have nd : (["formula", "shape", "values", "word", "every", "wanted", "value", "more"] : List Str).Nodup := s__law_holds.nd
  have hu : (cxOf (L2.CX P w) P w K mg base ["formula", "shape", "values", "word", "every", "wanted", "value", "more"] "_law_holds" (defScope (top 25)) fa cdv A outer s H E).A.units + 200 < cLine := by
    have := hr.un
    show (A.deeper (envOfC "_law_holds" (defScope (top 25)) s.heap.objs.size fa cdv)).units + 200 < cLine
    omega
  have hu1 : (cxOf (L2.CX P w) P w K mg base ["formula", "shape", "values", "word", "every", "wanted", "value", "more"] "_law_holds" (defScope (top 25)) fa cdv A outer s H E).A.units + 1 < cLine := by omega
  exact (gs_cons (gs_set 3 (ge_ix hu1 (ge_var 0) ge_int) nd)
    (gs_cons (gs_if (gt_cmp (og_eq hu) (ge_var 3) (ge_str [110, 111, 116])) (gs_cons (gs_ret (ge_not (ge_fn (F 22 _ _ rfl) hr tk (gan_cons (ge_ix hu1 (ge_var 0) ge_int) (gan_cons (ge_var 1) (gan_cons (ge_var 2) gan_nil))))))
    gs_nil) gs_nil)
    (gs_cons (gs_if (gt_cmp (og_eq hu) (ge_var 3) (ge_str [97, 110, 100])) (gs_cons (gs_ret (ge_and (ge_fn (F 22 _ _ rfl) hr tk (gan_cons (ge_ix hu1 (ge_var 0) ge_int) (gan_cons (ge_var 1) (gan_cons (ge_var 2) gan_nil)))) (ge_one (ge_fn (F 22 _ _ rfl) hr tk (gan_cons (ge_ix hu1 (ge_var 0) ge_int) (gan_cons (ge_var 1) (gan_cons (ge_var 2) gan_nil)))))))
    gs_nil) gs_nil)
    (gs_cons (gs_if (gt_cmp (og_eq hu) (ge_var 3) (ge_str [111, 114])) (gs_cons (gs_ret (ge_or (ge_fn (F 22 _ _ rfl) hr tk (gan_cons (ge_ix hu1 (ge_var 0) ge_int) (gan_cons (ge_var 1) (gan_cons (ge_var 2) gan_nil)))) (ge_one (ge_fn (F 22 _ _ rfl) hr tk (gan_cons (ge_ix hu1 (ge_var 0) ge_int) (gan_cons (ge_var 1) (gan_cons (ge_var 2) gan_nil)))))))
    gs_nil) gs_nil)
    (gs_cons (gs_if (gt_cmp (og_in hu) (ge_var 3) (ge_lst (ga_cons (ge_str [115, 111, 109, 101]) (ga_cons (ge_str [97, 108, 108]) (ga_cons (ge_str [115, 111, 109, 101, 115, 101, 116]) (ga_cons (ge_str [97, 108, 108, 115, 101, 116]) ga_nil)))))) (gs_cons (gs_set 4 (ge_fn (F 14 _ _ rfl) hr tk (gan_cons (ge_var 1) (gan_cons (ge_tup ga_nil) gan_nil))) nd)
    (gs_cons (gs_if (gt_cmp (og_in hu) (ge_var 3) (ge_lst (ga_cons (ge_str [115, 111, 109, 101, 115, 101, 116]) (ga_cons (ge_str [97, 108, 108, 115, 101, 116]) ga_nil)))) (gs_cons (gs_set 4 (ge_fn (F 20 _ _ rfl) hr tk (gan_cons (ge_var 4) gan_nil)) nd)
    gs_nil) gs_nil)
    (gs_cons (gs_set 5 (ge_cmp (og_in hu) (ge_var 3) (ge_lst (ga_cons (ge_str [115, 111, 109, 101]) (ga_cons (ge_str [115, 111, 109, 101, 115, 101, 116]) ga_nil)))) nd)
    (gs_cons (gs_for hp rfl (gi_seq (ge_var 4)) (gg_name 6 nd) (gs_cons (gs_set 7 (ge_t1 c1_dict (ge_var 2) fc.f_dict) nd)
    (gs_cons (gs_asg (ge_var 6) (gg_sub hu1 (ge_var 7) (ge_ix hu1 (ge_var 0) ge_int)))
    (gs_cons (gs_if (gt_cmp (og_eq hu) (ge_fn (F 22 _ _ rfl) hr tk (gan_cons (ge_ix hu1 (ge_var 0) ge_int) (gan_cons (ge_var 1) (gan_cons (ge_var 7) gan_nil)))) (ge_var 5)) (gs_cons (gs_ret (ge_var 5))
    gs_nil) gs_nil)
    gs_nil))))
    (gs_cons (gs_ret (ge_not (ge_var 5)))
    gs_nil))))) gs_nil)
    (gs_cons (gs_ret (ge_fn (F 21 _ _ rfl) hr tk (gan_cons (ge_var 0) (gan_cons (ge_var 1) (gan_cons (ge_var 2) gan_nil)))))
    gs_nil))))))
theorem k__law_holds {fd : FuncData} (F : AllK P w K mg base sig k Γ) (fc : Fc mg) (U : FnP K "_law_holds" 25 fd) : FnOk P w K mg base (L2.CX P w) (k + 1) (He.ga K "_law_holds") fd ["formula", "shape", "values"] (spG K (d__law_holds Γ) 3) :=
  fn_G U s__law_holds (fun args h _ => .inr rfl) fun cdv A outer s H E hr hp tk => w__law_holds F fc hr hp tk
theorem s_law : FnScope ["script", "tape", "kind", "shape", "listed", "values", "singles", "name", "sets", "formula", "path"] ["script"] (defScope (top 26)) := ⟨rfl, rfl, rfl, by decide +kernel, rfl, by decide +kernel, by decide +kernel⟩
theorem w_law (F : AllK P w K mg base sig k Γ) (fc : Fc mg) {fa : Addr} {cdv : Value} {A : Around} {outer : List PySem.Env} {s : Shared} {H : Hp} {E : XK} (hr : Room k (A.deeper (envOfC "law" (defScope (top 26)) s.heap.objs.size fa cdv)))
    (hp : PassesOwn (model P w) (A.deeper (envOfC "law" (defScope (top 26)) s.heap.objs.size fa cdv)) (envOfC "law" (defScope (top 26)) s.heap.objs.size fa cdv) (cxOf (L2.CX P w) P w K mg base ["script", "tape", "kind", "shape", "listed", "values", "singles", "name", "sets", "formula", "path"] "law" (defScope (top 26)) fa cdv A outer s H E).xe)
    (tk : Takes (cxOf (L2.CX P w) P w K mg base ["script", "tape", "kind", "shape", "listed", "values", "singles", "name", "sets", "formula", "path"] "law" (defScope (top 26)) fa cdv A outer s H E) (WD E)) :
    GSs (cxOf (L2.CX P w) P w K mg base ["script", "tape", "kind", "shape", "listed", "values", "singles", "name", "sets", "formula", "path"] "law" (defScope (top 26)) fa cdv A outer s H E) (WD E) (defBody (top 26)) (b_law Γ) := by
  have nd : (["script", "tape", "kind", "shape", "listed", "values", "singles", "name", "sets", "formula", "path"] : List Str).Nodup := s_law.nd
  have hu : (cxOf (L2.CX P w) P w K mg base ["script", "tape", "kind", "shape", "listed", "values", "singles", "name", "sets", "formula", "path"] "law" (defScope (top 26)) fa cdv A outer s H E).A.units + 200 < cLine := by
    have := hr.un
    show (A.deeper (envOfC "law" (defScope (top 26)) s.heap.objs.size fa cdv)).units + 200 < cLine
    omega
  have hu1 : (cxOf (L2.CX P w) P w K mg base ["script", "tape", "kind", "shape", "listed", "values", "singles", "name", "sets", "formula", "path"] "law" (defScope (top 26)) fa cdv A outer s H E).A.units + 1 < cLine := by omega
  exact (gs_cons (gs_set 1 (ge_fn (F 7 _ _ rfl) hr tk (gan_cons (ge_var 0) gan_nil)) nd)
    (gs_cons (gs_set 2 (ge_fn (F 12 _ _ rfl) hr tk (gan_cons (ge_var 1) gan_nil)) nd)
    (gs_cons (gs_set 3 (ge_fn (F 13 _ _ rfl) hr tk (gan_cons (ge_var 1) (gan_cons (ge_var 2) (gan_cons (ge_fn (F 8 _ _ rfl) hr tk (gan_cons (ge_var 1) (gan_cons ge_int gan_nil))) gan_nil)))) nd)
    (gs_cons (gs_set 4 (ge_b1 (c1_sorted hu) (ge_fn (F 14 _ _ rfl) hr tk (gan_cons (ge_var 3) (gan_cons (ge_tup ga_nil) gan_nil))) fc.f_sorted) nd)
    (gs_cons (gs_set 5 ge_dnew nd)
    (gs_cons (gs_set 6 (ge_lst ga_nil) nd)
    (gs_cons (gs_if (gt_cmp (og_ne hu) (ge_var 4) (ge_lst ga_nil)) (gs_cons (gs_set 6 (ge_cut (ge_lst (ga_cons (ge_str [120]) (ga_cons (ge_str [121]) ga_nil))) go_none (go_some (ge_fn (F 8 _ _ rfl) hr tk (gan_cons (ge_var 1) (gan_cons ge_int gan_nil))))) nd)
    gs_nil) gs_nil)
    (gs_cons (gs_for hp rfl (gi_seq (ge_var 6)) (gg_name 7 nd) (gs_cons (gs_asg (ge_ix hu1 (ge_var 4) (ge_fn (F 8 _ _ rfl) hr tk (gan_cons (ge_var 1) (gan_cons (ge_len (ge_var 4) fc.f_len) gan_nil)))) (gg_sub hu1 (ge_var 5) (ge_var 7)))
    gs_nil))
    (gs_cons (gs_set 8 (ge_cut (ge_lst (ga_cons (ge_str [88]) (ga_cons (ge_str [89]) ga_nil))) go_none (go_some (ge_fn (F 8 _ _ rfl) hr tk (gan_cons (ge_var 1) (gan_cons ge_int gan_nil))))) nd)
    (gs_cons (gs_for hp rfl (gi_seq (ge_var 8)) (gg_name 7 nd) (gs_cons (gs_asg (ge_t1 c1_tuple (ge_lc fin_frozen [("path", 10)] rfl nd (gi_seq (ge_var 4)) (fun _ _ _ _ _ => (gc_name 10 nd)) (fun _ _ _ _ _ => (gts_one (gt_cmp (og_eq hu) (ge_fn (F 8 _ _ rfl) hr GH.takes0 (gan_cons (ge_var 1) (gan_cons ge_int gan_nil))) ge_int))) (fun _ _ _ _ _ => (ge_var 10))) fc.f_tuple) (gg_sub hu1 (ge_var 5) (ge_var 7)))
    gs_nil))
    (gs_cons (gs_if (gt_not (gt_tru (ge_fn (F 11 _ _ rfl) hr tk (gan_cons (ge_fn (F 6 _ _ rfl) hr tk (gan_cons (ge_tup (ga_cons (ge_str [115, 111, 109, 101, 115, 101, 116]) (ga_cons (ge_str [88]) (ga_cons (ge_tup (ga_cons (ge_str [97, 108, 108]) (ga_cons (ge_str [120]) (ga_cons (ge_tup (ga_cons (ge_str [105, 110]) (ga_cons (ge_str [120]) (ga_cons (ge_str [88]) ga_nil)))) ga_nil)))) ga_nil)))) (gan_cons (ge_var 3) (gan_cons ge_dnew gan_nil)))) (gan_cons ge_bl gan_nil))))) (gs_cons (gs_ret ge_bl)
    gs_nil) gs_nil)
    (gs_cons (gs_set 9 (ge_fn (F 17 _ _ rfl) hr tk (gan_cons (ge_var 1) (gan_cons (ge_var 2) (gan_cons (ge_var 6) (gan_cons (ge_var 8) (gan_cons ge_int gan_nil)))))) nd)
    (gs_cons (gs_if (gt_cmp (og_eq hu) (ge_fn (F 8 _ _ rfl) hr tk (gan_cons (ge_var 1) (gan_cons ge_int gan_nil))) ge_int) (gs_cons (gs_set 9 (ge_tup (ga_cons (ge_str [111, 114]) (ga_cons (ge_fn (F 19 _ _ rfl) hr tk (gan_cons (ge_var 1) (gan_cons (ge_var 2) (gan_cons ge_int gan_nil)))) (ga_cons (ge_var 9) ga_nil)))) nd)
    gs_nil) gs_nil)
    (gs_cons (gs_ret (ge_fn (F 11 _ _ rfl) hr tk (gan_cons (ge_fn (F 6 _ _ rfl) hr tk (gan_cons (ge_var 9) (gan_cons (ge_var 3) (gan_cons (ge_var 5) gan_nil)))) (gan_cons (ge_fn (F 22 _ _ rfl) hr tk (gan_cons (ge_var 9) (gan_cons (ge_var 3) (gan_cons (ge_var 5) gan_nil)))) gan_nil))))
    gs_nil))))))))))))))
theorem k_law {fd : FuncData} (F : AllK P w K mg base sig k Γ) (fc : Fc mg) (U : FnP K "law" 26 fd) : FnOk P w K mg base (L2.CX P w) (k + 1) (He.ga K "law") fd ["script"] (spG K (d_law Γ) 1) :=
  fn_G U s_law (fun args h _ => .inl rfl) fun cdv A outer s H E hr hp tk => w_law F fc hr hp tk
end
end L06

set_option Elab.async false
set_option linter.all false
set_option maxRecDepth 100000
set_option maxHeartbeats 1000000
set_option autoImplicit false
namespace L06
open GH
theorem take_l {k : Nat} {m : Int} {o : Ob} {g : Hv} {P : Val → Hv → Prop} (ho : TapeOb o) (hm : 0 < m) (hm2 : m < 1073741824)
    (kk : ∀ r o', 0 ≤ r → r < m → TapeOb o' → P (.int r) (o' :: g)) : ok (lev D (k + 1) 8 [.ref 0, .int m] (o :: g)) P := take_sp hm hm2 ho kk
theorem mkTup_ok {vs : List Val} {h : Hv} (e : vs.length ≤ 16777216) : mkTup vs h = .ok (.tup vs) h := by simp [mkTup, lineN, e]
theorem mkLst_ok {vs : List Val} {h : Hv} (e : vs.length ≤ 16777216) : mkLst vs h = .ok (.lst vs) h := by simp [mkLst, lineN, e]
theorem kind_sp {k : Nat} {o : Ob} {g : Hv} {P : Val → Hv → Prop} (ho : TapeOb o) (kk : ∀ (n : Int) (ls : List (List Nat)) o', (n = 1 ∨ n = 2) → ls ≠ [] → ls.length ≤ 3 → (∀ l ∈ ls, okV (.str l) = true) → TapeOb o' → P (.tup [.int n, .tup (ls.map .str)]) (o' :: g)) :
    ok (lev D (k + 2) 12 [.ref 0] (o :: g)) P := by
  show ok (runDef 2 (b__law_kind (lev D (k + 1))) [.ref 0] (o :: g)) P
  rw [ok_run]
  refine sok_seq (fun l h => ∃ (ls : List (List Nat)) (o' : Ob), ls ≠ [] ∧ ls.length ≤ 3 ∧ (∀ l ∈ ls, okV (.str l) = true) ∧ TapeOb o' ∧ l = [some (.ref 0), some (.tup (ls.map .str))] ∧ h = o' :: g) ?_ ?_
  · simp [dVar, mkTup, lineN]
    refine take_l ho (by omega) (by omega) fun r o' h0 h1 ho' => ?_
    obtain rfl | rfl | rfl | rfl : r = 0 ∨ r = 1 ∨ r = 2 ∨ r = 3 := by omega
    · rw [vIx_tup (v := .tup [.str [97]]) rfl]; exact ⟨[[97]], by simp, by simp, by simp [okV], o', ho', rfl, rfl⟩
    · rw [vIx_tup (v := .tup [.str [97], .str [98]]) rfl]; exact ⟨[[97], [98]], by simp, by simp, by simp [okV], o', ho', rfl, rfl⟩
    · rw [vIx_tup (v := .tup [.str [97], .str [98]]) rfl]; exact ⟨[[97], [98]], by simp, by simp, by simp [okV], o', ho', rfl, rfl⟩
    · rw [vIx_tup (v := .tup [.str [98], .str [100], .str [122]]) rfl]; exact ⟨[[98], [100], [122]], by simp, by simp, by simp [okV], o', ho', rfl, rfl⟩
  · rintro l h ⟨ls, o', h1, h2, hk, h3, rfl, rfl⟩
    simp [dVar, mkTup, lineN]
    refine take_l h3 (by omega) (by omega) fun r o'' h0 h4 ho' => ?_
    simp [vDiv_ok _ (show (0 : Int) < 3 by omega) (show (3 : Int) < 1073741824 by omega)]
    exact kk _ ls o'' (by omega) h1 h2 hk ho'
/-! shapes -/
inductive Sh where
  | nil | one (l : List Nat) (c : Sh) | two (l : List Nat) (a b : Sh)
def Sh.val : Sh → Val
  | .nil => .tup []
  | .one l c => .tup [.str l, c.val]
  | .two l a b => .tup [.str l, a.val, b.val]
def Sh.good : Sh → Prop
  | .nil => True
  | .one l c => okV (.str l) = true ∧ c.good
  | .two l a b => okV (.str l) = true ∧ a.good ∧ b.good
def Sh.size : Sh → Nat
  | .nil => 0
  | .one _ c => c.size + 1
  | .two _ a b => a.size + b.size + 1
theorem shape_sp : ∀ (c : Nat) {k : Nat} {o : Ob} {g : Hv} {n : Int} {ls : List (List Nat)} {P : Val → Hv → Prop}, TapeOb o → (n = 1 ∨ n = 2) → ls ≠ [] → ls.length ≤ 3 → (∀ l ∈ ls, okV (.str l) = true) → c < 1000 →
    (∀ (s : Sh) o', s.size = c → s.good → TapeOb o' → P s.val (o' :: g)) → ok (lev D (k + c + 2) 13 [.ref 0, .tup [.int n, .tup (ls.map .str)], .int c] (o :: g)) P := by
  intro c
  induction c using Nat.strongRecOn with
  | _ c ih =>
    intro k o g n ls P ho hn h1 h2 hk hc kk
    show ok (runDef 5 (b__law_shape (lev D (k + c + 1))) [.ref 0, .tup [.int n, .tup (ls.map .str)], .int c] (o :: g)) P
    rw [ok_run]
    by_cases h0 : c = 0
    · subst h0
      simp [b__law_shape, dVar, mkTup, lineN]
      exact kk .nil o rfl trivial ho
    have hl : 0 < (ls.length : Int) := by
      cases ls with
      | nil => exact absurd rfl h1
      | cons => simp only [List.length_cons]; omega
    refine sok_seq (fun l h => l = [some (.ref 0), some (.tup [.int n, .tup (ls.map .str)]), some (.int c), none, none] ∧ h = o :: g) (by simp [dVar, h0]) ?_
    rintro l h ⟨rfl, rfl⟩
    refine sok_seq (fun l h => ∃ (lb : List Nat) (o' : Ob), okV (.str lb) = true ∧ TapeOb o' ∧ l = [some (.ref 0), some (.tup [.int n, .tup (ls.map .str)]), some (.int c), some (.str lb), none] ∧ h = o' :: g) ?_ ?_
    · simp [dVar]
      rw [vIx_tup (v := .tup (ls.map .str)) rfl]
      simp only [vLen_tup, ok_ok]
      have hq : (ls.map Val.str).length = ls.length := by simp
      refine take_l ho (by rw [hq]; exact hl) (by rw [hq]; omega) fun r o' h0 h4 ho' => ?_
      obtain ⟨v, e1, e2⟩ := nth_of (l := ls.map Val.str) h0 (h4)
      obtain ⟨lb, hlb, rfl⟩ := List.mem_map.mp e2
      rw [vIx_tup e1]
      exact ⟨lb, hk lb hlb, o', ho', rfl, rfl⟩
    rintro l h ⟨lb, o1, hlb, ho1, rfl, rfl⟩
    obtain ⟨d, rfl⟩ : ∃ d, c = d + 1 := ⟨c - 1, by omega⟩
    have e1 : ((d + 1 : Nat) : Int) - 1 = (d : Nat) := by omega
    rcases hn with rfl | rfl
    · refine sok_seq (fun l h => False) ?_ (fun _ _ z => z.elim)
      simp [dVar]
      rw [vIx_tup (v := .int 1) rfl]
      simp [dVar, e1]
      rw [show k + (d + 1) + 1 = k + d + 2 by omega]
      refine ih d (by omega) ho1 (.inl rfl) h1 h2 hk (by omega) fun s o2 hs hg ho2 => ?_
      rw [mkTup_ok (by simp)]
      exact kk (.one lb s) o2 (by simp [Sh.size, hs]) ⟨hlb, hg⟩ ho2
    · refine sok_seq (fun l h => l = [some (.ref 0), some (.tup [.int 2, .tup (ls.map .str)]), some (.int (d + 1 : Nat)), some (.str lb), none] ∧ h = o1 :: g) ?_ ?_
      · simp [dVar]
        rw [vIx_tup (v := .int 2) rfl]
        simp
      rintro l h ⟨rfl, rfl⟩
      refine sok_seq (fun l h => ∃ (a : Nat) (o' : Ob), a ≤ d ∧ TapeOb o' ∧ l = [some (.ref 0), some (.tup [.int 2, .tup (ls.map .str)]), some (.int (d + 1 : Nat)), some (.str lb), some (.int a)] ∧ h = o' :: g) ?_ ?_
      · simp [dVar]
        refine take_l ho1 (by omega) (by omega) fun r o' h0 h4 ho' => ⟨r.toNat, by omega, o', ho', ?_, rfl⟩
        congr 6
        omega
      rintro l h ⟨a, o2, ha, ho2, rfl, rfl⟩
      simp [dVar]
      rw [show k + (d + 1) + 1 = (k + d - a) + a + 2 by omega]
      refine ih a (by omega) ho2 (.inr rfl) h1 h2 hk (by omega) fun s1 o3 hs1 hg1 ho3 => ?_
      rw [show ((d : Int) - a) = ((d - a : Nat) : Int) by omega, show (k + d - a) + a + 2 = (k + a) + (d - a) + 2 by omega]
      refine ih (d - a) (by omega) ho3 (.inr rfl) h1 h2 hk (by omega) fun s2 o4 hs2 hg2 ho4 => ?_
      rw [mkTup_ok (by simp)]
      exact kk (.two lb s1 s2) o4 (by simp [Sh.size, hs1, hs2]; omega) ⟨hlb, hg1, hg2⟩ ho4
end L06

set_option Elab.async false
set_option linter.all false
set_option maxRecDepth 100000
set_option maxHeartbeats 1000000
set_option autoImplicit false
namespace L06
open GH PySem
theorem Sh.okv : ∀ {s : Sh}, s.good → okV s.val = true
  | .nil, _ => rfl
  | .one l c, g => by simp only [Sh.val, okV, okVs, Bool.and_true]; rw [Sh.okv g.2]; simpa [okV] using g.1
  | .two l a b, g => by simp only [Sh.val, okV, okVs, Bool.and_true]; rw [Sh.okv g.2.1, Sh.okv g.2.2]; simpa [okV] using g.1
def Sh.isNil : Sh → Bool
  | .nil => true
  | _ => false
theorem eq_nil {s : Sh} {h : Hv} (g : s.good) : vEq s.val (.tup []) h = .ok (.bl s.isNil) h := by
  have o := Sh.okv g
  cases s with
  | nil => rfl
  | one l c =>
    simp only [Sh.val] at o ⊢
    simp only [vEq, thaw, eqOk, o, okV, okVs, dpV, dpVs, Bool.and_true, Bool.true_and]
    rw [if_pos (by simp)]
    rfl
  | two l a b =>
    simp only [Sh.val] at o ⊢
    simp only [vEq, thaw, eqOk, o, okV, okVs, dpV, dpVs, Bool.and_true, Bool.true_and]
    rw [if_pos (by simp)]
    rfl
def pathsOf : Sh → List Int → List (List Int)
  | .nil, _ => []
  | .one _ c, p => p :: pathsOf c (p ++ [0])
  | .two _ a b, p => p :: (pathsOf a (p ++ [0]) ++ pathsOf b (p ++ [1]))
theorem paths_len : ∀ (s : Sh) (p : List Int), (pathsOf s p).length = s.size
  | .nil, _ => rfl
  | .one _ c, p => by simp [pathsOf, Sh.size, paths_len c]
  | .two _ a b, p => by simp [pathsOf, Sh.size, paths_len a, paths_len b]
theorem add_lst {a b : List Val} {h : Hv} (e : a.length + b.length ≤ 16777216) : vAdd (.lst a) (.lst b) h = .ok (.lst (a ++ b)) h := by
  simp [vAdd, lstOf, lineN, e]
theorem add_tup {a b : List Val} {h : Hv} (e : a.length + b.length ≤ 16777216) : vAdd (.tup a) (.tup b) h = .ok (.tup (a ++ b)) h := by
  simp [vAdd, lineN, e]
theorem rl1 : rangeL 0 1 = [.int 0] := nrfl rfl
theorem rl2 : rangeL 0 2 = [.int 0, .int 1] := nrfl rfl
theorem vRange1_ok {j : Int} {h : Hv} (h0 : 0 ≤ j) (h1 : j ≤ 16777216) : vRange1 (.int j) h = .ok (rangeL 0 j.toNat, none) h := by
  have e : (2 : Int) ^ 62 = 4611686018427387904 := by decide
  unfold vRange1
  rw [e]
  dsimp only
  rw [if_pos ⟨by omega, h1⟩]
theorem lp_two {k : Nat} {lb : List Nat} {a b : Sh} {p : List Int} {h : Hv} {P : Val → Hv → Prop} (g : (Sh.two lb a b).good) (hl : p.length + (a.size + b.size + 1) ≤ 1000) (q : P (.lst ((pathsOf (.two lb a b) p).map pv)) h)
    (ia : ∀ (h : Hv) (P : Val → Hv → Prop), P (.lst ((pathsOf a (p ++ [0])).map pv)) h → ok (lev D k 14 [a.val, pv (p ++ [0])] h) P)
    (ib : ∀ (h : Hv) (P : Val → Hv → Prop), P (.lst ((pathsOf b (p ++ [1])).map pv)) h → ok (lev D k 14 [b.val, pv (p ++ [1])] h) P) : ok (runDef 4 (b__law_paths (lev D k)) [(Sh.two lb a b).val, pv p] h) P := by
  obtain ⟨v0, hv⟩ : ∃ v0, v0 = (Sh.two lb a b).val := ⟨_, rfl⟩
  have hv2 : v0 = .tup [.str lb, a.val, b.val] := hv.trans rfl
  have en : vEq v0 (.tup []) h = .ok (.bl false) h := by rw [hv]; exact eq_nil (s := .two lb a b) g
  rw [← hv]
  rw [ok_run]
  refine sok_seq (fun l h1 => l = [some v0, some (pv p), none, none] ∧ h1 = h) (by simp [dVar, mkTup_ok, en]) ?_
  rintro l h ⟨rfl, rfl⟩
  refine sok_seq (fun l h1 => l = [some v0, some (pv p), some (.lst [pv p]), none] ∧ h1 = h) ?_ ?_
  · rw [e_asg]
    simp only [e_lst, e_cons, e_nil, dVar, List.getElem?_cons_succ, List.getElem?_cons_zero, Res.bind_ok]
    rw [mkLst_ok (by simp)]
    simp
  rintro l h ⟨rfl, rfl⟩
  refine sok_seq (fun l h' => (∃ x, l = [some v0, some (pv p), some (.lst ((pathsOf (.two lb a b) p).map pv)), x]) ∧ h' = h) ?_ (fun l h' ⟨⟨x, e1⟩, e2⟩ => by subst e1 e2; simpa [dVar] using q)
  subst hv2
  rw [e_for]
  simp only [e_rng1, e_bin, e_len, dVar, List.getElem?_cons_zero, Res.bind_ok, e_c, vLen_tup, vSub_int]
  rw [show (([Val.str lb, a.val, b.val].length : Nat) : Int) - 1 = 2 by simp, vRange1_ok (by omega) (by omega), show rangeL 0 (2 : Int).toNat = [.int 0, .int 1] from rl2]
  rw [Res.to_ok]
  refine forL_inv (fun items l h' => ((items = [.int 0, .int 1] ∧ ∃ x, l = [some (.tup [.str lb, a.val, b.val]), some (pv p), some (.lst [pv p]), x]) ∨ (items = [.int 1] ∧ ∃ x, l = [some (.tup [.str lb, a.val, b.val]), some (pv p), some (.lst ((p :: pathsOf a (p ++ [0])).map pv)), x])
    ∨ (items = [] ∧ ∃ x, l = [some (.tup [.str lb, a.val, b.val]), some (pv p), some (.lst ((pathsOf (.two lb a b) p).map pv)), x])) ∧ h' = h) ?_ ?_ _ _ _ ⟨.inl ⟨rfl, none, rfl⟩, rfl⟩
  · rintro v items l h ⟨⟨e, x, rfl⟩ | ⟨e, x, rfl⟩ | ⟨e, x, rfl⟩, rfl⟩
    · simp only [List.cons.injEq] at e
      obtain ⟨rfl, rfl⟩ := e
      refine ⟨trivial, ?_⟩
      simp [dVar]
      rw [vIx_tup (v := a.val) rfl]
      simp [mkTup_ok]
      rw [add_tup (by simp; omega)]
      simp
      rw [show p.map Val.int ++ [.int 0] = (p ++ [0]).map .int by simp]
      refine ia _ _ ?_
      rw [add_lst (by simp [paths_len]; omega)]
      simp
    · simp only [List.cons.injEq] at e
      obtain ⟨rfl, rfl⟩ := e
      refine ⟨trivial, ?_⟩
      simp [dVar]
      rw [vIx_tup (v := b.val) rfl]
      simp [mkTup_ok]
      rw [add_tup (by simp; omega)]
      simp
      rw [show p.map Val.int ++ [.int 1] = (p ++ [1]).map .int by simp]
      refine ib _ _ ?_
      rw [add_lst (by simp [paths_len]; omega)]
      simp [pathsOf]
    · cases e
  · rintro l h ⟨⟨e, x, rfl⟩ | ⟨e, x, rfl⟩ | ⟨e, x, rfl⟩, rfl⟩
    · cases e
    · cases e
    · exact ⟨trivial, ⟨x, rfl⟩, rfl⟩
theorem lpaths : ∀ (s : Sh) {k : Nat} {p : List Int} {h : Hv} {P : Val → Hv → Prop}, s.good → p.length + s.size ≤ 1000 → P (.lst ((pathsOf s p).map pv)) h → ok (lev D (k + s.size + 1) 14 [s.val, pv p] h) P
  | .nil, k, p, h, P, g, hl, q => by
    show ok (runDef 4 (b__law_paths (lev D (k + 0))) [Sh.nil.val, pv p] h) P
    rw [ok_run]
    simp [b__law_paths, dVar, mkTup_ok, mkLst_ok, eq_nil (s := .nil) g, Sh.isNil]
    exact q
  | .one lb c, k, p, h, P, g, hl, q => by
    show ok (runDef 4 (b__law_paths (lev D (k + c.size + 1))) [(Sh.one lb c).val, pv p] h) P
    rw [ok_run]
    simp only [Sh.size] at hl
    refine sok_seq (fun l h1 => l = [some (Sh.one lb c).val, some (pv p), none, none] ∧ h1 = h) (by simp [dVar, mkTup_ok, eq_nil (s := .one lb c) g, Sh.isNil]) ?_
    rintro l h ⟨rfl, rfl⟩
    refine sok_seq (fun l h1 => l = [some (Sh.one lb c).val, some (pv p), some (.lst [pv p]), none] ∧ h1 = h) (by simp [dVar, mkLst_ok]) ?_
    rintro l h ⟨rfl, rfl⟩
    simp [dVar, Sh.val, vRange1, rl1, rl2, forL]
    rw [vIx_tup (v := c.val) rfl]
    simp [mkTup_ok]
    rw [add_tup (by simp; omega)]
    simp
    rw [show p.map Val.int ++ [.int 0] = (p ++ [0]).map .int by simp]
    refine lpaths c g.2 (by simp; omega) ?_
    rw [add_lst (by simp [paths_len]; omega)]
    simp [dVar]
    simpa [pathsOf] using q
  | .two lb a b, k, p, h, P, g, hl, q => by
    simp only [Sh.size] at hl
    refine lp_two (k := k + (a.size + b.size) + 1) g hl q (fun h P q => ?_) (fun h P q => ?_)
    · rw [show k + (a.size + b.size) + 1 = (k + b.size) + a.size + 1 by omega]
      exact lpaths a g.2.1 (by simp; omega) q
    · rw [show k + (a.size + b.size) + 1 = (k + a.size) + b.size + 1 by omega]
      exact lpaths b g.2.2 (by simp; omega) q
/-! parts -/
def part : Sh → List Int → Option Sh
  | s, [] => some s
  | .one _ c, w :: r => if w = 0 then part c r else none
  | .two _ a b, w :: r => if w = 0 then part a r else if w = 1 then part b r else none
  | .nil, _ :: _ => none
theorem lpart {k : Nat} : ∀ (r : List Int) (s c : Sh) {h : Hv} {P : Val → Hv → Prop}, part s r = some c → P c.val h → ok (lev D (k + 1) 15 [s.val, pv r] h) P := by
  intro r s c h P e q
  show ok (runDef 3 (b__law_part (lev D k)) [s.val, pv r] h) P
  rw [ok_run]
  refine sok_seq (fun l h1 => (∃ x, l = [some c.val, some (pv r), x]) ∧ h1 = h) ?_ (fun l h1 ⟨⟨x, e1⟩, e2⟩ => by subst e1 e2; simpa [dVar] using q)
  simp [dVar]
  refine forL_inv (fun items l h1 => ∃ s' r' x, items = r'.map Val.int ∧ part s' r' = some c ∧ l = [some s'.val, some (pv r), x] ∧ h1 = h) ?_ ?_ _ _ _ ⟨s, r, none, rfl, e, rfl, rfl⟩
  · rintro v items l h1 ⟨s', r', x, e1, e2, rfl, rfl⟩
    cases r' with
    | nil => cases e1
    | cons w r' =>
      simp only [List.map_cons, List.cons.injEq] at e1
      obtain ⟨rfl, rfl⟩ := e1
      refine ⟨trivial, ?_⟩
      cases s' with
      | nil => cases e2
      | one lb a =>
        simp only [part] at e2
        split at e2
        · rename_i hw
          subst hw
          simp [dVar, Sh.val]
          rw [vIx_tup (v := a.val) rfl]
          exact ⟨a, r', rfl, e2, rfl, rfl⟩
        · cases e2
      | two lb a b =>
        simp only [part] at e2
        split at e2
        · rename_i hw
          subst hw
          simp [dVar, Sh.val]
          rw [vIx_tup (v := a.val) rfl]
          exact ⟨a, r', rfl, e2, rfl, rfl⟩
        · split at e2
          · rename_i hw
            subst hw
            simp [dVar, Sh.val]
            rw [vIx_tup (v := b.val) rfl]
            exact ⟨b, r', rfl, e2, rfl, rfl⟩
          · cases e2
  · rintro l h1 ⟨s', r', x, e1, e2, rfl, rfl⟩
    cases r' with
    | cons => cases e1
    | nil =>
      simp only [part, Option.some.injEq] at e2
      subst e2
      exact ⟨trivial, ⟨x, rfl⟩, rfl⟩
end L06

set_option Elab.async false
set_option linter.all false
set_option maxRecDepth 100000
set_option maxHeartbeats 1000000
set_option autoImplicit false
namespace L06
open GH PySem
abbrev El := List Int × Sh
def ev (q : El) : Val := .tup [pv q.1, q.2.val]
def elems : Sh → List Int → List El
  | .nil, _ => []
  | .one l c, p => (p, .one l c) :: elems c (p ++ [0])
  | .two l a b, p => (p, .two l a b) :: (elems b (p ++ [1]) ++ elems a (p ++ [0]))
def mss (st : List El) : Nat := (st.map fun q => 2 * q.2.size + 1).sum
def lens (st : List El) (n : Nat) : Prop := ∀ q ∈ st, q.1.length + q.2.size ≤ n
section
variable (h : Hv) (A B C : Ob)
@[simp] theorem g0 : (h ++ [A, B])[h.length]? = some A := by simp
@[simp] theorem g1 : (h ++ [A, B])[h.length + 1]? = some B := by
  rw [List.getElem?_append_right (by omega)]; simp
@[simp] theorem s0 : (h ++ [A, B]).set h.length C = h ++ [C, B] := by simp
@[simp] theorem s1 : (h ++ [A, B]).set (h.length + 1) C = h ++ [A, C] := by
  rw [List.set_append_right _ _ (by omega)]; simp
end
def good' (st : List El) : Prop := ∀ q ∈ st, q.2.good
noncomputable def wBody : Stm := (sSeq (sAsg (dMeth0 isLst vPop (dVar 2)) (gTup 2 (gsCons (gName 3) (gsCons (gName 4) gsNil))))
    (sSeq (sIf (dTru (dVar 4)) (sSeq (sExpr (dMeth1 isLst vAppend (dVar 1) (dTup (dCons (dVar 3) (dCons (dVar 4) dNil)))))
    (sSeq (sFor (iEnumG (dCut (dVar 4) (oSome (dC (.int 1))) oNone)) (gTup 2 (gsCons (gName 5) (gsCons (gName 6) gsNil))) (sSeq (sExpr (dMeth1 isLst vAppend (dVar 2) (dTup (dCons (dBin vAdd (dVar 3) (dTup (dCons (dVar 5) dNil))) (dCons (dVar 6) dNil)))))
    sNext))
    sNext)) sNext)
    sNext))
theorem append_ref {i : Nat} {l : List Val} {v : Val} {h : Hv} (e : h[i]? = some (.lst l)) (hl : l.length < 16777216) : vAppend (.ref i) v h = .ok .non (h.set i (.lst (l ++ [v]))) := by
  simp [vAppend, e, lineN, hl]
theorem pop_ref {i : Nat} {l : List Val} {v : Val} {h : Hv} (e : h[i]? = some (.lst (l ++ [v]))) : vPop (.ref i) h = .ok v (h.set i (.lst l)) := by
  simp [vPop, e]
theorem isLst_ref {i : Nat} {l : List Val} {h : Hv} (e : h[i]? = some (.lst l)) : isLst h (.ref i) = true := by
  simp [isLst, lstOf, e]
theorem tru_ref {i : Nat} {l : List Val} {h : Hv} (e : h[i]? = some (.lst l)) : vTru (.ref i) h = .ok (!l.isEmpty) h := by
  simp [vTru, seqOf, lstOf, e]
theorem tru_tup {l : List Val} {h : Hv} : vTru (.tup l) h = .ok (!l.isEmpty) h := by
  simp [vTru, seqOf]
theorem mss_len (st : List El) : st.length ≤ mss st := by
  induction st with
  | nil => exact Nat.zero_le _
  | cons a st ih => simp [mss] at ih ⊢; omega
/-- what is left at each item taken from the stack -/
theorem wloop {h : Hv} {sv0 : Val} {R : GH.Loc → Hv → Prop} : ∀ (n : Nat) (st res : List El) (x y z u : Option Val), mss st ≤ n → good' st → lens st 1000 → res.length + n ≤ 10000 →
    (∀ l', (∃ x y z u, l' = [some sv0, some (.ref h.length), some (.ref (h.length + 1)), x, y, z, u]) → R l' (h ++ [.lst ((res ++ (st.reverse.flatMap fun q => elems q.2 q.1)).map ev), .lst []])) →
    sok (sWhile (dTru (dVar 2)) wBody [some sv0, some (.ref h.length), some (.ref (h.length + 1)), x, y, z, u] (h ++ [.lst (res.map ev), .lst (st.map ev)])) { nx := R } := by
  intro n
  induction n with
  | zero =>
    intro st res x y z u hm hg hl hr q
    cases st with
    | cons a st => simp [mss] at hm
    | nil =>
      rw [sWhile_eq]
      simp [dVar, tru_ref (g1 h _ _)]
      simpa using q _ ⟨_, _, _, _, rfl⟩
  | succ n ih =>
    intro st res x y z u hm hg hl hr q
    rcases List.eq_nil_or_concat st with rfl | ⟨st, a, rfl⟩
    · rw [sWhile_eq]
      simp [dVar, tru_ref (g1 h _ _)]
      simpa using q _ ⟨_, _, _, _, rfl⟩
    · rw [List.concat_eq_append] at hm hg hl q ⊢
      obtain ⟨p, s⟩ := a
      rw [sWhile_eq]
      simp only [e_tru, dVar, List.getElem?_cons_succ, List.getElem?_cons_zero, Res.bind_ok, tru_ref (g1 h _ _), Res.to_ok]
      rw [if_pos (by simp)]
      rw [sok_turn]
      have gs : s.good := hg (p, s) (by simp)
      have ls : p.length + s.size ≤ 1000 := hl (p, s) (by simp)
      have hgs : good' st := fun q hq => hg q (by simp [hq])
      have hls : lens st 1000 := fun q hq => hl q (by simp [hq])
      have hms : mss st + (2 * s.size + 1) ≤ n + 1 := by simpa [mss] using hm
      have hs := mss_len st
      refine sok_seq (fun l h' => l = [some sv0, some (.ref h.length), some (.ref (h.length + 1)), some (pv p), some s.val, z, u] ∧ h' = h ++ [.lst (res.map ev), .lst (st.map ev)]) ?_ ?_
      · simp only [e_asg, e_meth0, dVar, List.getElem?_cons_succ, List.getElem?_cons_zero, Res.bind_ok, isLst_ref (g1 h _ _), if_true]
        rw [pop_ref (l := st.map ev) (v := ev (p, s)) (by rw [g1]; simp)]
        simp [ev, gTup, gsCons, gsNil]
      rintro l h' ⟨rfl, rfl⟩
      cases s with
      | nil =>
        simp [dVar, Sh.val, tru_tup]
        refine ih st res _ _ _ _ (by omega) hgs hls (by omega) fun l' hl' => ?_
        have := q l' hl'
        simpa [elems] using this
      | one lb c =>
        simp only [Sh.size] at hms ls
        refine sok_seq (fun l h' => (∃ z u, l = [some sv0, some (.ref h.length), some (.ref (h.length + 1)), some (pv p), some (Sh.one lb c).val, z, u]) ∧ h' = h ++ [.lst ((res ++ [(p, Sh.one lb c)]).map ev), .lst ((st ++ [(p ++ [0], c)]).map ev)]) ?_ ?_
        · simp only [e_if, e_tru, dVar, List.getElem?_cons_succ, List.getElem?_cons_zero, Res.bind_ok, Sh.val, tru_tup, Res.to_ok]
          rw [if_pos (by simp)]
          refine sok_seq (fun l h' => l = [some sv0, some (.ref h.length), some (.ref (h.length + 1)), some (pv p), some (Sh.one lb c).val, z, u] ∧ h' = h ++ [.lst ((res ++ [(p, Sh.one lb c)]).map ev), .lst (st.map ev)]) ?_ ?_
          · simp [dVar, isLst_ref (g0 h _ _), mkTup_ok, append_ref (g0 h _ _) (show (res.map ev).length < 16777216 by simp; omega), Sh.val, ev]
          rintro l h' ⟨rfl, rfl⟩
          simp only [e_seq, e_for, e_enum, e_cut, dVar, List.getElem?_cons_succ, List.getElem?_cons_zero, Res.bind_ok, oSome, e_c, e_onone, Sh.val]
          rw [show vCut (.tup [.str lb, c.val]) (some 1) none (h ++ [.lst ((res ++ [(p, Sh.one lb c)]).map ev), .lst (st.map ev)]) = .ok (.tup [c.val]) _ from rfl]
          simp [vEnum, enumL, forL, gTup, gsCons, gsNil, dVar, isLst_ref (g1 h _ _), mkTup_ok]
          rw [add_tup (by simp; omega)]
          simp [mkTup_ok, append_ref (g1 h _ _) (show (st.map ev).length < 16777216 by simp; omega), ev, Sh.val]
        rintro l h' ⟨⟨z, u, rfl⟩, rfl⟩
        simp only [e_next, sok_nx]
        refine ih (st ++ [(p ++ [0], c)]) (res ++ [(p, Sh.one lb c)]) _ _ _ _ (by simp [mss] at hms ⊢; omega) (fun q hq => ?_) (fun q hq => ?_) (by simp; omega) fun l' hl' => ?_
        · rcases List.mem_append.mp hq with hq | hq
          · exact hgs q hq
          · rw [List.mem_singleton.mp hq]; exact gs.2
        · rcases List.mem_append.mp hq with hq | hq
          · exact hls q hq
          · rw [List.mem_singleton.mp hq]; simp; omega
        · have := q l' hl'
          simpa [elems] using this
      | two lb a b =>
        simp only [Sh.size] at hms ls
        refine sok_seq (fun l h' => (∃ z u, l = [some sv0, some (.ref h.length), some (.ref (h.length + 1)), some (pv p), some (Sh.two lb a b).val, z, u]) ∧ h' = h ++ [.lst ((res ++ [(p, Sh.two lb a b)]).map ev), .lst ((st ++ [(p ++ [0], a), (p ++ [1], b)]).map ev)]) ?_ ?_
        · simp only [e_if, e_tru, dVar, List.getElem?_cons_succ, List.getElem?_cons_zero, Res.bind_ok, Sh.val, tru_tup, Res.to_ok]
          rw [if_pos (by simp)]
          refine sok_seq (fun l h' => l = [some sv0, some (.ref h.length), some (.ref (h.length + 1)), some (pv p), some (Sh.two lb a b).val, z, u] ∧ h' = h ++ [.lst ((res ++ [(p, Sh.two lb a b)]).map ev), .lst (st.map ev)]) ?_ ?_
          · simp [dVar, isLst_ref (g0 h _ _), mkTup_ok, append_ref (g0 h _ _) (show (res.map ev).length < 16777216 by simp; omega), Sh.val, ev]
          rintro l h' ⟨rfl, rfl⟩
          simp only [e_seq, e_for, e_enum, e_cut, dVar, List.getElem?_cons_succ, List.getElem?_cons_zero, Res.bind_ok, oSome, e_c, e_onone, Sh.val]
          rw [show vCut (.tup [.str lb, a.val, b.val]) (some 1) none (h ++ [.lst ((res ++ [(p, Sh.two lb a b)]).map ev), .lst (st.map ev)]) = .ok (.tup [a.val, b.val]) _ from rfl]
          simp only [Res.bind_ok, vEnum, Res.to_ok, sok_then]
          rw [show enumL [a.val, b.val] = [.tup [.int 0, a.val], .tup [.int 1, b.val]] from rfl]
          refine forL_inv (fun items l h' => ∃ z u, l = [some sv0, some (.ref h.length), some (.ref (h.length + 1)), some (pv p), some (.tup [.str lb, a.val, b.val]), z, u] ∧ ((items = [.tup [.int 0, a.val], .tup [.int 1, b.val]] ∧ h' = h ++ [.lst ((res ++ [(p, Sh.two lb a b)]).map ev), .lst (st.map ev)])
            ∨ (items = [.tup [.int 1, b.val]] ∧ h' = h ++ [.lst ((res ++ [(p, Sh.two lb a b)]).map ev), .lst ((st ++ [(p ++ [0], a)]).map ev)]) ∨ (items = [] ∧ h' = h ++ [.lst ((res ++ [(p, Sh.two lb a b)]).map ev), .lst ((st ++ [(p ++ [0], a), (p ++ [1], b)]).map ev)]))) ?_ ?_ _ _ _ ⟨z, u, rfl, .inl ⟨rfl, rfl⟩⟩
          · rintro v items l h' ⟨z, u, rfl, ⟨e, rfl⟩ | ⟨e, rfl⟩ | ⟨e, rfl⟩⟩
            · simp only [List.cons.injEq] at e
              obtain ⟨rfl, rfl⟩ := e
              refine ⟨trivial, ?_⟩
              simp only [gTup, gsCons, gsNil, e_name, TRes.bind_ok, tok_ok, List.length_cons, List.length_nil, if_true, e_seq, e_expr, e_meth1, dVar, List.set_cons_succ, List.set_cons_zero, List.getElem?_cons_succ, List.getElem?_cons_zero, Res.bind_ok, isLst_ref (g1 h _ _), e_tup, e_cons, e_bin, e_nil]
              simp [mkTup_ok]
              rw [add_tup (by simp; omega)]
              simp [mkTup_ok, append_ref (g1 h _ _) (show (st.map ev).length < 16777216 by simp; omega), ev]
            · simp only [List.cons.injEq] at e
              obtain ⟨rfl, rfl⟩ := e
              refine ⟨trivial, ?_⟩
              simp only [gTup, gsCons, gsNil, e_name, TRes.bind_ok, tok_ok, List.length_cons, List.length_nil, if_true, e_seq, e_expr, e_meth1, dVar, List.set_cons_succ, List.set_cons_zero, List.getElem?_cons_succ, List.getElem?_cons_zero, Res.bind_ok, isLst_ref (g1 h _ _), e_tup, e_cons, e_bin, e_nil]
              simp [mkTup_ok]
              rw [add_tup (by simp; omega)]
              simp [mkTup_ok]
              rw [append_ref (g1 h _ _) (by simp; omega)]
              simp [ev]
            · cases e
          · rintro l h' ⟨z, u, rfl, ⟨e, rfl⟩ | ⟨e, rfl⟩ | ⟨e, rfl⟩⟩
            · cases e
            · cases e
            · refine ⟨trivial, ?_⟩
              simp [Sh.val]
        rintro l h' ⟨⟨z, u, rfl⟩, rfl⟩
        simp only [e_next, sok_nx]
        refine ih (st ++ [(p ++ [0], a), (p ++ [1], b)]) (res ++ [(p, Sh.two lb a b)]) _ _ _ _ (by simp [mss] at hms ⊢; omega) (fun q hq => ?_) (fun q hq => ?_) (by simp; omega) fun l' hl' => ?_
        · rcases List.mem_append.mp hq with hq | hq
          · exact hgs q hq
          · simp at hq
            rcases hq with rfl | rfl
            · exact gs.2.1
            · exact gs.2.2
        · rcases List.mem_append.mp hq with hq | hq
          · exact hls q hq
          · simp at hq
            rcases hq with rfl | rfl <;> simp <;> omega
        · have := q l' hl'
          simpa [elems] using this
end L06

set_option Elab.async false
set_option linter.all false
set_option maxRecDepth 100000
set_option maxHeartbeats 1000000
set_option autoImplicit false
namespace L06
open GH PySem
theorem pv_inj {p q : List Int} (h : pv p = pv q) : p = q := by
  have h : p.map Val.int = q.map Val.int := by simpa using h
  exact List.map_inj_right (fun a b e => by simpa using e) |>.mp h
theorem unpv : ∀ l : List Val, (∀ v ∈ l, ∃ p, v = pv p) → ∃ L : List (List Int), l = L.map pv
  | [], _ => ⟨[], rfl⟩
  | v :: l, h => by
    obtain ⟨p, rfl⟩ := h v (List.mem_cons_self ..)
    obtain ⟨L, rfl⟩ := unpv l fun v hv => h v (List.mem_cons_of_mem _ hv)
    exact ⟨p :: L, rfl⟩
theorem pds_ints (p : List Int) : pds (p.map .int) = p.map PyData.int := by
  induction p with
  | nil => rfl
  | cons a p ih => simp only [List.map_cons, pds, pd, ih]
theorem alike_pv (p q : List Int) : PySem.W.alike (pd (pv p)) (pd (pv q)) = true := by
  simp only [pd, PySem.W.alike, pds_ints, PySem.W.alike_ints]
theorem mem_pv {p : List Int} {l : List (List Int)} : pv p ∈ l.map pv ↔ p ∈ l := by
  constructor
  · intro h
    obtain ⟨q, hq, e⟩ := List.mem_map.mp h
    rw [← pv_inj e]; exact hq
  · exact fun h => List.mem_map.mpr ⟨p, h, rfl⟩
theorem sorted_pv {l : List (List Int)} (hd : l = [] ∨ ∃ r, l = [] :: r) (h : Hv) : ∃ L : List (List Int), (∀ q, q ∈ L ↔ q ∈ l) ∧ L.length = l.length ∧ vSorted (.lst (l.map pv)) h = .ok (.lst (L.map pv)) h := by
  have ok : sortOk (l.map pv) = true := by
    unfold sortOk
    have h1 := okVs_pvs l
    have h2 := dpVs_pvs l
    have h3 : ((l.map pv).all fun a => (l.map pv).all fun b => PySem.W.alike (pd a) (pd b)) = true := by
      refine List.all_eq_true.mpr fun a ha => List.all_eq_true.mpr fun b hb => ?_
      obtain ⟨p, _, rfl⟩ := List.mem_map.mp ha
      obtain ⟨q, _, rfl⟩ := List.mem_map.mp hb
      exact alike_pv p q
    rw [h1, h3]
    have h4 : decide (dpVs (l.map pv) ≤ 190) = true := decide_eq_true (by omega)
    rw [h4]
    rcases hd with rfl | ⟨r, rfl⟩
    · rfl
    · simp
      exact .inr rfl
  have perm : (sortV (l.map pv)).Perm (l.map pv) := List.mergeSort_perm _ _
  obtain ⟨L, hL⟩ := unpv (sortV (l.map pv)) fun v hv => by
    obtain ⟨p, _, e⟩ := List.mem_map.mp (perm.mem_iff.mp hv)
    exact ⟨p, e.symm⟩
  refine ⟨L, fun q => ?_, ?_, ?_⟩
  · rw [← mem_pv (l := l), ← perm.mem_iff, hL, mem_pv]
  · have := perm.length_eq
    rw [hL] at this
    simpa using this
  · simp [vSorted, lstOf, ok, hL]
theorem elems_ok : ∀ (s : Sh) (p : List Int), s.good → okVs ((elems s p).map ev) = true
  | .nil, _, _ => rfl
  | .one l c, p, g => by
    have := Sh.okv (s := .one l c) g
    simp only [elems, List.map_cons, okVs, elems_ok c _ g.2, Bool.and_true, ev, okV, okV_pv, okVs_ints, this, Bool.and_self]
  | .two l a b, p, g => by
    have := Sh.okv (s := .two l a b) g
    simp only [elems, List.map_cons, List.map_append, okVs, okVs_append, elems_ok a _ g.2.1, elems_ok b _ g.2.2, Bool.and_true, ev, okV, okV_pv, okVs_ints, this, Bool.and_self]
theorem all_el {k : Nat} {s : Sh} {h : Hv} {P : Val → Hv → Prop} (g : s.good) (hs : s.size ≤ 1000) (q : P (.lst ((elems s []).map ev)) h) : ok (lev D (k + 1) 0 [s.val] h) P := by
  show ok (tidy (runDef 7 (b_all_elements (lev D k)) [s.val] h) h) P
  refine tidy_lst ?_
  rw [ok_run]
  refine sok_seq (fun l h' => l = [some s.val, some (.ref h.length), none, none, none, none, none] ∧ h' = h ++ [.lst []]) (by simp [mkRef, lineN]) ?_
  rintro l h' ⟨rfl, rfl⟩
  refine sok_seq (fun l h' => l = [some s.val, some (.ref h.length), some (.ref (h.length + 1)), none, none, none, none] ∧ h' = h ++ [.lst [], .lst [ev ([], s)]]) (by simp [mkRef, lineN, mkTup_ok, dVar, ev]) ?_
  rintro l h' ⟨rfl, rfl⟩
  refine sok_seq (fun l h' => (∃ x y z u, l = [some s.val, some (.ref h.length), some (.ref (h.length + 1)), x, y, z, u]) ∧ h' = h ++ [.lst ((elems s []).map ev), .lst []]) ?_ ?_
  · refine sok_imp (wloop (h := h) (sv0 := s.val) (R := fun l h' => (∃ x y z u, l = [some s.val, some (.ref h.length), some (.ref (h.length + 1)), x, y, z, u]) ∧ h' = h ++ [.lst ((elems s []).map ev), .lst []]) (2 * s.size + 1) [([], s)] [] none none none none (by simp [mss]) (fun q hq => by rw [List.mem_singleton.mp hq]; exact g) (fun q hq => by rw [List.mem_singleton.mp hq]; simpa using hs) (by simp; omega) fun l' hl' => ⟨hl', by simp⟩) (fun _ _ z => z) (fun _ _ z => z.elim) (fun _ _ z => z.elim) (fun _ _ z => z.elim)
  rintro l h' ⟨⟨x, y, z, u, rfl⟩, rfl⟩
  simp [dVar]
  exact ⟨elems_ok s [] g, q⟩
theorem el_mem : ∀ (s : Sh) (p q : List Int), q ∈ (elems s p).map (·.1) ↔ q ∈ pathsOf s p
  | .nil, _, _ => by simp [elems, pathsOf]
  | .one l c, p, q => by simp only [elems, pathsOf, List.map_cons, List.mem_cons, el_mem c]
  | .two l a b, p, q => by
    simp only [elems, pathsOf, List.map_cons, List.map_append, List.mem_cons, List.mem_append, el_mem a, el_mem b]
    constructor <;> (rintro (h | h | h) <;> simp [h])
theorem el_part : ∀ (s : Sh) (p q : List Int) (c : Sh), (q, c) ∈ elems s p → ∃ r, q = p ++ r ∧ part s r = some c ∧ c.isNil = false
  | .nil, _, _, _, h => by simp [elems] at h
  | .one l a, p, q, c, h => by
    simp only [elems, List.mem_cons, Prod.mk.injEq] at h
    rcases h with ⟨rfl, rfl⟩ | h
    · exact ⟨[], by simp, rfl, rfl⟩
    · obtain ⟨r, rfl, e, n⟩ := el_part a _ _ _ h
      exact ⟨0 :: r, by simp, by simpa [part] using e, n⟩
  | .two l a b, p, q, c, h => by
    simp only [elems, List.mem_cons, List.mem_append, Prod.mk.injEq] at h
    rcases h with ⟨rfl, rfl⟩ | h | h
    · exact ⟨[], by simp, rfl, rfl⟩
    · obtain ⟨r, rfl, e, n⟩ := el_part b _ _ _ h
      exact ⟨1 :: r, by simp, by simpa [part] using e, n⟩
    · obtain ⟨r, rfl, e, n⟩ := el_part a _ _ _ h
      exact ⟨0 :: r, by simp, by simpa [part] using e, n⟩
theorem el_head : ∀ s : Sh, (elems s []).map (·.1) = [] ∨ ∃ r, (elems s []).map (·.1) = [] :: r
  | .nil => .inl rfl
  | .one l c => .inr ⟨_, rfl⟩
  | .two l a b => .inr ⟨_, rfl⟩
theorem el_len : ∀ (s : Sh) (p : List Int), (elems s p).length = s.size
  | .nil, _ => rfl
  | .one _ c, p => by simp [elems, Sh.size, el_len c]
  | .two _ a b, p => by simp [elems, Sh.size, el_len a, el_len b]; omega
/-- paths(shape), _law_paths sorted: lists of the same paths -/
theorem paths_sp (s : Sh) (g : s.good) (hs : s.size ≤ 1000) : ∃ L : List (List Int), (∀ q, q ∈ L ↔ q ∈ pathsOf s []) ∧ L.length = s.size ∧ ∀ (k : Nat) (h : Hv) (P : Val → Hv → Prop), P (.lst (L.map pv)) h → ok (lev D (k + 2) 1 [s.val] h) P := by
  obtain ⟨L, h1, h2, _⟩ := sorted_pv (el_head s) []
  refine ⟨L, fun q => by rw [h1, el_mem], by rw [h2, List.length_map, el_len], fun k h P q => ?_⟩
  obtain ⟨L', h1', h2', e'⟩ := sorted_pv (el_head s) h
  have eL : L' = L := by
    have a := (sorted_pv (el_head s) h)
    have e1 : vSorted (.lst (((elems s []).map (·.1)).map pv)) h = .ok (.lst (L'.map pv)) h := e'
    have e2 : vSorted (.lst (((elems s []).map (·.1)).map pv)) [] = .ok (.lst (L.map pv)) [] := by assumption
    unfold vSorted at e1 e2
    simp only [lstOf] at e1 e2
    split at e1
    · rename_i o
      rw [if_pos o] at e2
      simp only [Res.ok.injEq, Val.lst.injEq, and_true] at e1 e2
      rw [e1] at e2
      exact List.map_inj_right (fun a b e => pv_inj e) |>.mp e2
    · cases e1
  subst eL
  show ok (runDef 3 (b_paths (lev D (k + 1))) [s.val] h) P
  rw [ok_run]
  simp [b_paths, dVar]
  refine all_el g hs ?_
  simp
  refine lc_pure (fun _ => true) (fun v => match v with | .tup [a, _] => a | v => v) trivial ?_ ?_
  · intro x hx
    obtain ⟨q, _, rfl⟩ := List.mem_map.mp hx
    simp [ev, gTup, gsCons, gsNil, wipeL, dVar]
  · have e : (List.filter (fun _ => true) ((elems s []).map ev)).map (fun v => match v with | .tup [a, _] => a | v => v) = ((elems s []).map (·.1)).map pv := by
      generalize elems s [] = l
      induction l with
      | nil => rfl
      | cons a l ih => simp only [List.map_cons, List.filter_cons, if_true] at ih ⊢; rw [ih]; rfl
    rw [e, e']
    simpa using q
end L06

set_option Elab.async false
set_option linter.all false
set_option maxRecDepth 100000
set_option maxHeartbeats 1000000
set_option autoImplicit false
namespace L06
open GH PySem
def Sh.lab : Sh → List Nat
  | .nil => []
  | .one l _ => l
  | .two l _ _ => l
def labOf (s : Sh) (q : List Int) : List Nat := match part s q with
  | some c => c.lab
  | none => []
theorem lab_ix {c : Sh} (h : Hv) (n : c.isNil = false) : vIx c.val (.int 0) h = .ok (.str c.lab) h := by
  cases c with
  | nil => cases n
  | one l c => exact vIx_tup rfl
  | two l a b => exact vIx_tup rfl
theorem path_el {s : Sh} {q : List Int} (hq : q ∈ pathsOf s []) : ∃ c, (q, c) ∈ elems s [] := by
  have := (el_mem s [] q).mpr hq
  obtain ⟨⟨q', c⟩, h, rfl⟩ := List.mem_map.mp this
  exact ⟨c, h⟩
theorem el_lab {s : Sh} {q : List Int} {c : Sh} (h : (q, c) ∈ elems s []) : c.isNil = false ∧ labOf s q = c.lab ∧ part s q = some c := by
  obtain ⟨r, e, e2, n⟩ := el_part s [] q c h
  simp only [List.nil_append] at e
  subst e
  exact ⟨n, by simp [labOf, e2], e2⟩
theorem label_sp {k : Nat} {s : Sh} {q : List Int} {h : Hv} {P : Val → Hv → Prop} (g : s.good) (hs : s.size ≤ 1000) (hq : q ∈ pathsOf s []) (z : P (.str (labOf s q)) h) : ok (lev D (k + 2) 2 [s.val, pv q] h) P := by
  show ok (runDef 4 (b_label_at (lev D (k + 1))) [s.val, pv q] h) P
  rw [ok_run]
  refine sok_seq (fun _ _ => False) ?_ (fun _ _ z => z.elim)
  simp [dVar]
  refine all_el g hs ?_
  simp
  refine forL_inv (fun items l h' => ∃ (rest : List El) (c : Sh) (x y : Option Val), items = rest.map ev ∧ (∀ e ∈ rest, e ∈ elems s []) ∧ (q, c) ∈ rest ∧ l = [some s.val, some (pv q), x, y] ∧ h' = h) ?_ ?_ _ _ _ ?_
  · rintro v items l h' ⟨rest, c, x, y, e, hr, hc, rfl, rfl⟩
    cases rest with
    | nil => cases hc
    | cons a rest =>
      simp only [List.map_cons, List.cons.injEq] at e
      obtain ⟨rfl, rfl⟩ := e
      refine ⟨trivial, ?_⟩
      obtain ⟨p', c'⟩ := a
      by_cases hp : p' = q
      · subst hp
        obtain ⟨n, e1, e2⟩ := el_lab (hr (p', c') (List.mem_cons_self ..))
        simp [ev, gTup, gsCons, gsNil, dVar, lab_ix _ n]
        rw [← e1]
        exact z
      · simp [ev, gTup, gsCons, gsNil, dVar, hp]
        refine ⟨rest, rfl, fun a b hab => hr (a, b) (List.mem_cons_of_mem _ hab), c, ?_⟩
        rcases List.mem_cons.mp hc with hc | hc
        · exact absurd (congrArg Prod.fst hc).symm hp
        · exact hc
  · rintro l h' ⟨rest, c, x, y, e, hr, hc, rfl, rfl⟩
    cases rest with
    | nil => cases hc
    | cons => cases e
  · obtain ⟨c, hc⟩ := path_el hq
    exact ⟨elems s [], c, none, none, rfl, fun e he => he, hc, rfl, rfl⟩
def subs (L : List (List Int)) : List (List (List Int)) := L.foldl (fun acc p => acc ++ acc.map (· ++ [p])) [[]]
def subI (L : List (List Int)) (h : Hv) (items : List Val) (l : GH.Loc) (h' : Hv) : Prop := ∃ (rest : List (List Int)) (acc : List (List (List Int))) (x y : Option Val), items = rest.map pv ∧ l = [some (.lst (L.map pv)), some (.lst (acc.map tv)), x, y] ∧ h' = h ∧ acc.length * 2 ^ rest.length ≤ 1024 ∧ (∀ s ∈ acc, s.length + rest.length ≤ 10) ∧ rest.foldl (fun acc p => acc ++ acc.map (· ++ [p])) acc = subs L
theorem subs_run {n : Nat} {L : List (List Int)} {h : Hv} {P : Val → Hv → Prop} {Γ : Gam} (hL : L.length ≤ 10) (z : P (.lst ((subs L).map tv)) h) : ok (runDef 4 (b_subsets Γ) [.lst (L.map pv)] h) P := by
  rw [ok_run]
  refine sok_seq (fun l h' => l = [some (.lst (L.map pv)), some (.lst [tv []]), none, none] ∧ h' = h) (by simp [mkTup_ok, mkLst_ok]) ?_
  rintro l h ⟨rfl, rfl⟩
  refine sok_seq (fun l h' => (∃ x y, l = [some (.lst (L.map pv)), some (.lst ((subs L).map tv)), x, y]) ∧ h' = h) ?_ (fun l h' ⟨⟨x, y, e1⟩, e2⟩ => by subst e1 e2; simpa [dVar] using z)
  simp [dVar]
  refine forL_inv (subI L h) ?_ ?_ _ _ _ ?_
  · rintro v items l h' ⟨rest, acc, x, y, e, rfl, rfl, h1, h2, h3⟩
    cases rest with
    | nil => cases e
    | cons p rest =>
      simp only [List.map_cons, List.cons.injEq] at e
      obtain ⟨rfl, rfl⟩ := e
      refine ⟨trivial, ?_⟩
      have hlen : acc.length ≤ 1024 := Nat.le_trans (Nat.le_mul_of_pos_right _ (Nat.pow_pos (by omega))) h1
      simp only [List.length_cons, Nat.pow_succ] at h1 h2
      simp [dVar]
      refine lc_pure (fun _ => true) (fun v => match v with | .tup l => .tup (l ++ [pv p]) | v => v) trivial ?_ ?_
      · intro x hx
        obtain ⟨s, hs, rfl⟩ := List.mem_map.mp hx
        have := h2 s hs
        simp [wipeL, dVar, mkTup_ok]
        rw [add_tup (by simp; omega)]
      · have e : (List.filter (fun _ => true) (acc.map tv)).map (fun v => match v with | .tup l => .tup (l ++ [pv p]) | v => v) = (acc.map (· ++ [p])).map tv := by
          clear h1 h2 h3 hlen
          induction acc with
          | nil => rfl
          | cons a l ih => simp only [List.map_cons, List.filter_cons, if_true] at ih ⊢; rw [ih]; simp [tv]
        rw [e]
        rw [add_lst (by simp; omega)]
        simp only [ok_ok, List.set_cons_succ, List.set_cons_zero]
        refine ⟨rest, acc ++ acc.map (· ++ [p]), _, _, rfl, by rw [List.map_append], rfl, ?_, ?_, by simpa using h3⟩
        · simp only [List.length_append, List.length_map]
          have : (acc.length + acc.length) * 2 ^ rest.length = acc.length * (2 ^ rest.length * 2) := by
            rw [Nat.add_mul, Nat.mul_comm (2 ^ rest.length) 2, ← Nat.mul_assoc, Nat.mul_comm acc.length 2, Nat.mul_assoc, Nat.two_mul]
          omega
        · intro s hs
          rcases List.mem_append.mp hs with hs | hs
          · have := h2 s hs; omega
          · obtain ⟨t, ht, rfl⟩ := List.mem_map.mp hs
            have := h2 t ht
            simp only [List.length_append, List.length_cons, List.length_nil]; omega
  · rintro l h' ⟨rest, acc, x, y, e, rfl, rfl, h1, h2, h3⟩
    cases rest with
    | cons => cases e
    | nil =>
      refine ⟨trivial, ⟨x, y, ?_⟩, rfl⟩
      simp only [List.foldl_nil] at h3
      rw [h3]
  · refine ⟨L, [[]], none, none, rfl, rfl, rfl, ?_, ?_, rfl⟩
    · have : (2 : Nat) ^ L.length ≤ 2 ^ 10 := Nat.pow_le_pow_right (by omega) hL
      simpa using this
    · intro s hs
      rw [List.mem_singleton.mp hs]
      simpa using hL
theorem subs_a {k : Nat} {L : List (List Int)} {h : Hv} {P : Val → Hv → Prop} (hL : L.length ≤ 10) (z : P (.lst ((subs L).map tv)) h) : ok (lev D (k + 1) 4 [.lst (L.map pv)] h) P := subs_run (n := 0) hL z
theorem subs_b {k : Nat} {L : List (List Int)} {h : Hv} {P : Val → Hv → Prop} (hL : L.length ≤ 10) (z : P (.lst ((subs L).map tv)) h) : ok (lev D (k + 1) 20 [.lst (L.map pv)] h) P := subs_run (n := 0) (Γ := lev D k) hL z
theorem subs_mem_gen : ∀ (L : List (List Int)) (acc : List (List (List Int))) (f : List Int → Bool) (a : List (List Int)), a ∈ acc → a ++ L.filter f ∈ L.foldl (fun acc p => acc ++ acc.map (· ++ [p])) acc
  | [], acc, f, a, h => by simpa using h
  | p :: L, acc, f, a, h => by
    simp only [List.foldl_cons, List.filter_cons]
    split
    · have := subs_mem_gen L (acc ++ acc.map (· ++ [p])) f (a ++ [p]) (List.mem_append_right _ (List.mem_map.mpr ⟨a, h, rfl⟩))
      simpa using this
    · exact subs_mem_gen L _ f a (List.mem_append_left _ h)
/-- every part of L is among them -/
theorem subs_filter (L : List (List Int)) (f : List Int → Bool) : L.filter f ∈ subs L := by
  have := subs_mem_gen L [[]] f [] (by simp)
  simpa [subs] using this
theorem subs_in_gen : ∀ (L : List (List Int)) (acc : List (List (List Int))) (U : List Int → Prop), (∀ a ∈ acc, ∀ q ∈ a, U q) → (∀ q ∈ L, U q) → ∀ a ∈ L.foldl (fun acc p => acc ++ acc.map (· ++ [p])) acc, ∀ q ∈ a, U q
  | [], acc, U, h, _ => by simpa using h
  | p :: L, acc, U, h, hL => by
    simp only [List.foldl_cons]
    refine subs_in_gen L _ U (fun a ha q hq => ?_) fun q hq => hL q (List.mem_cons_of_mem _ hq)
    rcases List.mem_append.mp ha with ha | ha
    · exact h a ha q hq
    · obtain ⟨b, hb, rfl⟩ := List.mem_map.mp ha
      rcases List.mem_append.mp hq with hq | hq
      · exact h b hb q hq
      · rw [List.mem_singleton.mp hq]; exact hL p (List.mem_cons_self ..)
theorem subs_in {L : List (List Int)} {a : List (List Int)} (h : a ∈ subs L) : ∀ q ∈ a, q ∈ L :=
  subs_in_gen L [[]] (fun q => q ∈ L) (fun a ha q hq => by rw [List.mem_singleton.mp ha] at hq; cases hq) (fun q hq => hq) a h
/-! dicts -/
theorem kEq_str {u : Val} {x : List Nat} (h : kEq u (.str x) = true) : u = .str x := by
  cases u with
  | str s => simp only [kEq, decide_eq_true_eq] at h; rw [h]
  | _ => cases h
theorem dget_map_ne {x y : List Nat} (hxy : x ≠ y) (v : Val) : ∀ l : List (Val × Val), dGet (l.map fun p => if kEq p.1 (.str x) = true then (p.1, v) else p) (.str y) = dGet l (.str y)
  | [] => rfl
  | p :: l => by
    have ih := dget_map_ne hxy v l
    simp only [dGet] at ih ⊢
    simp only [List.map_cons, List.find?_cons]
    by_cases hp : kEq p.1 (.str x) = true
    · have e := kEq_str hp
      have n : kEq p.1 (.str y) = false := by rw [e]; simp [kEq, hxy]
      simp only [hp, if_true, n]
      exact ih
    · simp only [if_neg hp]
      cases kEq p.1 (.str y) with
      | true => rfl
      | false => exact ih
theorem dget_map_eq {x : List Nat} (v : Val) : ∀ l : List (Val × Val), (l.any fun p => kEq p.1 (.str x)) = true → dGet (l.map fun p => if kEq p.1 (.str x) = true then (p.1, v) else p) (.str x) = some v
  | [], h => by cases h
  | p :: l, h => by
    have ih := dget_map_eq (x := x) v l
    simp only [dGet] at ih ⊢
    simp only [List.map_cons, List.find?_cons]
    by_cases hp : kEq p.1 (.str x) = true
    · simp only [hp, if_true]; rfl
    · have hp' : kEq p.1 (.str x) = false := by simpa using hp
      simp only [hp', Bool.false_eq_true, if_false]
      refine ih ?_
      simpa [hp'] using h
theorem dget_put (l : List (Val × Val)) (x y : List Nat) (v : Val) : dGet (dPut l (.str x) v) (.str y) = if x = y then some v else dGet l (.str y) := by
  unfold dPut
  by_cases ha : (l.any fun p => kEq p.1 (.str x)) = true
  · rw [if_pos ha]
    by_cases hxy : x = y
    · subst hxy; rw [if_pos rfl]; exact dget_map_eq v l ha
    · rw [if_neg hxy]; exact dget_map_ne hxy v l
  · rw [if_neg ha]
    by_cases hxy : x = y
    · subst hxy
      rw [if_pos rfl]
      have : (l.find? fun p => kEq p.1 (.str x)) = none := by
        rw [List.find?_eq_none]
        intro p hp hk
        exact ha (List.any_eq_true.mpr ⟨p, hp, hk⟩)
      simp only [dGet, List.find?_append, this]
      simp [kEq]
    · rw [if_neg hxy]
      simp [dGet, List.find?_append, kEq, hxy]
theorem dput_len (l : List (Val × Val)) (k v : Val) : (dPut l k v).length ≤ l.length + 1 := by
  unfold dPut
  split <;> simp
theorem dict_ref {j : Nat} {l : List (Val × Val)} {h : Hv} (e : h[j]? = some (.dic l)) : vDict (.ref j) h = .ok (.ref h.length) (h ++ [.dic l]) := by
  simp [vDict, dicOf, e]
theorem set_last {l : List (Val × Val)} {x : List Nat} {v : Val} {h : Hv} (hl : l.length < 16777216) : vSet (.ref h.length) (.str x) v (h ++ [.dic l]) = some (h ++ [.dic (dPut l (.str x) v)]) := by
  simp [vSet, keyOf, lineN, hl]
theorem with_sp {k : Nat} {j : Nat} {l : List (Val × Val)} {x : List Nat} {v : Val} {h : Hv} {P : Val → Hv → Prop} (e : h[j]? = some (.dic l)) (hl : l.length < 16777216) (z : P (.ref h.length) (h ++ [.dic (dPut l (.str x) v)])) :
    ok (lev D (k + 1) 5 [.ref j, .str x, v] h) P := by
  show ok (runDef 4 (b_with_value (lev D k)) [.ref j, .str x, v] h) P
  rw [ok_run]
  simp [b_with_value, dVar, dict_ref e, set_last hl]
  exact z
end L06

set_option Elab.async false
set_option linter.all false
set_option maxRecDepth 100000
set_option maxHeartbeats 1000000
set_option autoImplicit false
namespace L06
open GH PySem
section
variable (a b c d : Val) (l : List Val) (h : Hv)
@[simp] theorem t0 : vIx (.tup (a :: l)) (.int 0) h = .ok a h := nrfl rfl
@[simp] theorem t1 : vIx (.tup (a :: b :: l)) (.int 1) h = .ok b h := nrfl rfl
@[simp] theorem t2 : vIx (.tup (a :: b :: c :: l)) (.int 2) h = .ok c h := nrfl rfl
@[simp] theorem t3 : vIx (.tup (a :: b :: c :: d :: l)) (.int 3) h = .ok d h := nrfl rfl
@[simp] theorem m1_3 : vIx (.tup [a, b, c]) (.int (-1)) h = .ok c h := nrfl rfl
@[simp] theorem m2_3 : vIx (.tup [a, b, c]) (.int (-2)) h = .ok b h := nrfl rfl
@[simp] theorem m1_4 : vIx (.tup [a, b, c, d]) (.int (-1)) h = .ok d h := nrfl rfl
@[simp] theorem m2_4 : vIx (.tup [a, b, c, d]) (.int (-2)) h = .ok c h := nrfl rfl
end
@[simp] theorem e_neg (i : Int) (l : GH.Loc) (h : Hv) : dNeg (dC (.int i)) l h = .ok (.int (-i)) h := nrfl rfl
@[simp] theorem e_osome (d : Den) (l : GH.Loc) (h : Hv) : oSome d l h = (d l h).bind fun v h1 => match v with
  | .int i => .ok (some i) h1
  | _ => .fail := nrfl rfl
@[simp] theorem e_andv (a b : Den) (l : GH.Loc) (h : Hv) : dAndV a b l h = (a l h).bind fun v h1 => match v with
  | .bl true => b l h1
  | .bl false => .ok (.bl false) h1
  | _ => .fail := by
  unfold dAndV
  cases a l h with
  | ok v h1 => cases v <;> first | rfl | (rename_i b; cases b <;> rfl)
  | exc e h1 => rfl
  | fail => rfl
theorem cut_take {α : Type} (l : List α) (n : Nat) : cut l none (some (n : Int)) = l.take n := by
  unfold cut
  rw [HT.sIx_nat, HT.sIx_none]
  simp only [List.drop_zero, Nat.sub_zero]
  by_cases h : n ≤ l.length
  · rw [Nat.min_eq_left h]
  · rw [Nat.min_eq_right (by omega), List.take_of_length_le (Nat.le_refl _), List.take_of_length_le (by omega)]
abbrev Nm := List Nat
inductive Fm where
  | tru | label (a x : Nm) | child (i : Int) (x y : Nm) | top (x : Nm) | blw (x y : Nm) | same (x y : Nm) | inn (x X : Nm) | inside (X Y : Nm)
  | not (f : Fm) | and (f g : Fm) | or (f g : Fm) | q1 (b : Bool) (x : Nm) (f : Fm) | q2 (b : Bool) (X : Nm) (f : Fm)
def Fm.val : Fm → Val
  | .tru => .tup [.str [116, 114, 117, 101]]
  | .label a x => .tup [.str [108, 97, 98, 101, 108], .str a, .str x]
  | .child i x y => .tup [.str [99, 104, 105, 108, 100], .int i, .str x, .str y]
  | .top x => .tup [.str [116, 111, 112], .str x]
  | .blw x y => .tup [.str [98, 101, 108, 111, 119], .str x, .str y]
  | .same x y => .tup [.str [115, 97, 109, 101], .str x, .str y]
  | .inn x X => .tup [.str [105, 110], .str x, .str X]
  | .inside X Y => .tup [.str [105, 110, 115, 105, 100, 101], .str X, .str Y]
  | .not f => .tup [.str [110, 111, 116], f.val]
  | .and f g => .tup [.str [97, 110, 100], f.val, g.val]
  | .or f g => .tup [.str [111, 114], f.val, g.val]
  | .q1 b x f => .tup [.str (if b then [115, 111, 109, 101] else [97, 108, 108]), .str x, f.val]
  | .q2 b X f => .tup [.str (if b then [115, 111, 109, 101, 115, 101, 116] else [97, 108, 108, 115, 101, 116]), .str X, f.val]
def Fm.atom : Fm → Bool
  | .not _ | .and _ _ | .or _ _ | .q1 _ _ _ | .q2 _ _ _ => false
  | _ => true
/-- what a formula says: s the shape, P its paths, Q the sets of them -/
def ev1 (s : Sh) (P : List (List Int)) (Q : List (List (List Int))) : Fm → (Nm → List Int) → (Nm → List (List Int)) → Bool
  | .tru, _, _ => true
  | .label a x, ρ, _ => decide (labOf s (ρ x) = a)
  | .child i x y, ρ, _ => decide (ρ y = ρ x ++ [i])
  | .top x, ρ, _ => decide (ρ x = [])
  | .blw x y, ρ, _ => decide ((ρ x).length < (ρ y).length) && decide ((ρ y).take (ρ x).length = ρ x)
  | .same x y, ρ, _ => decide (ρ x = ρ y)
  | .inn x X, ρ, τ => decide (ρ x ∈ τ X)
  | .inside X Y, _, τ => (τ X).all fun p => decide (p ∈ τ Y)
  | .not f, ρ, τ => !ev1 s P Q f ρ τ
  | .and f g, ρ, τ => ev1 s P Q f ρ τ && ev1 s P Q g ρ τ
  | .or f g, ρ, τ => ev1 s P Q f ρ τ || ev1 s P Q g ρ τ
  | .q1 b x f, ρ, τ => if P.any (fun p => ev1 s P Q f (fun y => if y = x then p else ρ y) τ == b) then b else !b
  | .q2 b X f, ρ, τ => if Q.any (fun a => ev1 s P Q f ρ (fun Y => if Y = X then a else τ Y) == b) then b else !b
def isS (x : Nm) : Bool := x == [120] || x == [121] || x == [122]
def isT (x : Nm) : Bool := x == [88] || x == [89]
/-- the names that a formula uses are bound -/
def WF : Fm → List Nm → List Nm → Prop
  | .tru, _, _ => True
  | .label _ x, S, _ => x ∈ S
  | .child _ x y, S, _ => x ∈ S ∧ y ∈ S
  | .top x, S, _ => x ∈ S
  | .blw x y, S, _ => x ∈ S ∧ y ∈ S
  | .same x y, S, _ => x ∈ S ∧ y ∈ S
  | .inn x X, S, T => x ∈ S ∧ X ∈ T
  | .inside X Y, _, T => X ∈ T ∧ Y ∈ T
  | .not f, S, T => WF f S T
  | .and f g, S, T => WF f S T ∧ WF g S T
  | .or f g, S, T => WF f S T ∧ WF g S T
  | .q1 _ x f, S, T => isS x = true ∧ WF f (x :: S) T
  | .q2 _ X f, S, T => isT X = true ∧ WF f S (X :: T)
structure EnvOk (s : Sh) (l : List (Val × Val)) (S T : List Nm) (ρ : Nm → List Int) (τ : Nm → List (List Int)) : Prop where
  sg : ∀ x ∈ S, isS x = true ∧ dGet l (.str x) = some (pv (ρ x)) ∧ ρ x ∈ pathsOf s []
  st : ∀ X ∈ T, isT X = true ∧ dGet l (.str X) = some (tv (τ X))
theorem st_ne {x X : Nm} (h1 : isS x = true) (h2 : isT X = true) : x ≠ X := by
  rintro rfl
  simp [isS, isT] at h1 h2
  rcases h1 with (rfl | rfl) | rfl <;> simp at h2
theorem EnvOk.bind1 {s : Sh} {l : List (Val × Val)} {S T : List Nm} {ρ : Nm → List Int} {τ : Nm → List (List Int)} (e : EnvOk s l S T ρ τ) {x : Nm} {p : List Int} (hx : isS x = true) (hp : p ∈ pathsOf s []) :
    EnvOk s (dPut l (.str x) (pv p)) (x :: S) T (fun y => if y = x then p else ρ y) τ := by
  refine ⟨fun y hy => ?_, fun Y hY => ?_⟩
  · rw [dget_put]
    by_cases hyx : y = x
    · subst hyx
      simp [hx, hp]
    · rcases List.mem_cons.mp hy with hy | hy
      · exact absurd hy hyx
      · obtain ⟨a, b, c⟩ := e.sg y hy
        rw [if_neg (fun z => hyx z.symm)]
        simp only [if_neg hyx]
        exact ⟨a, b, c⟩
  · obtain ⟨a, b⟩ := e.st Y hY
    rw [dget_put, if_neg (st_ne hx a)]
    exact ⟨a, b⟩
theorem EnvOk.bind2 {s : Sh} {l : List (Val × Val)} {S T : List Nm} {ρ : Nm → List Int} {τ : Nm → List (List Int)} (e : EnvOk s l S T ρ τ) {X : Nm} {a : List (List Int)} (hX : isT X = true) :
    EnvOk s (dPut l (.str X) (tv a)) S (X :: T) ρ (fun Y => if Y = X then a else τ Y) := by
  refine ⟨fun y hy => ?_, fun Y hY => ?_⟩
  · obtain ⟨b, c, d⟩ := e.sg y hy
    rw [dget_put, if_neg (fun z => st_ne b hX z.symm)]
    exact ⟨b, c, d⟩
  · rw [dget_put]
    by_cases hyx : Y = X
    · subst hyx
      simp [hX]
    · rcases List.mem_cons.mp hY with hY | hY
      · exact absurd hY hyx
      · obtain ⟨b, c⟩ := e.st Y hY
        rw [if_neg (fun z => hyx z.symm)]
        simp only [if_neg hyx]
        exact ⟨b, c⟩
theorem path_len : ∀ (s : Sh) (p q : List Int), q ∈ pathsOf s p → q.length ≤ p.length + s.size
  | .nil, _, _, h => by cases h
  | .one l c, p, q, h => by
    simp only [pathsOf, List.mem_cons] at h
    rcases h with rfl | h
    · omega
    · have := path_len c _ _ h; simp [Sh.size] at this ⊢; omega
  | .two l a b, p, q, h => by
    simp only [pathsOf, List.mem_cons, List.mem_append] at h
    rcases h with rfl | h | h
    · omega
    · have := path_len a _ _ h; simp [Sh.size] at this ⊢; omega
    · have := path_len b _ _ h; simp [Sh.size] at this ⊢; omega
theorem eq_top (p : List Int) (h : Hv) : vEq (pv p) (.tup []) h = .ok (.bl (decide (p = []))) h := vEq_pv p [] h
theorem vAll_bls (l : List Bool) (h : Hv) : vAll (.lst (l.map .bl)) h = .ok (.bl (l.all id)) h := by
  have : blsOf (l.map .bl) = some l := by
    induction l with
    | nil => rfl
    | cons a l ih => simp [blsOf, ih]
  simp [vAll, lstOf, this]
section
variable {l : GH.Loc} {h h1 : Hv} {P : Post} {rest a b : Stm} {d : Den} {i : Nat} {v : Val} {w u : Nm}
theorem asg_ (e : d l h = .ok v h1) (z : sok (rest (l.set i (some v)) h1) P) : sok (sSeq (sAsg d (gName i)) rest l h) P := by
  rw [e_seq, sok_then, e_asg, e]
  exact z
theorem ret_ (z : ok (d l h) P.rt) : sok (sSeq (sRet d) rest l h) P := by
  rw [e_seq, sok_then, e_ret, sok_to]
  exact z
theorem skip_ (hl : l[i]? = some (some (.str u))) (hne : u ≠ w) (z : sok (rest l h) P) : sok (sSeq (sIf (dB (dBin vEq (dVar i) (dC (.str w)))) a sNext) rest l h) P := by
  rw [e_seq, sok_then]
  simp only [e_if, e_b, e_bin, dVar, hl, Res.bind_ok, e_c, vEq_str, resB_bl, Res.to_ok, hne, decide_false, Bool.false_eq_true, if_false, e_next, sok_nx]
  exact z
theorem hit_ (hl : l[i]? = some (some (.str w))) (z : ok (d l h) P.rt) : sok (sSeq (sIf (dB (dBin vEq (dVar i) (dC (.str w)))) (sSeq (sRet d) sNext) sNext) rest l h) P := by
  rw [e_seq, sok_then]
  simp only [e_if, e_b, e_bin, dVar, hl, Res.bind_ok, e_c, vEq_str, resB_bl, Res.to_ok, decide_true, if_true]
  exact ret_ z
end
theorem atom_a {k j : Nat} {s : Sh} {f : Fm} {l : List (Val × Val)} {S T : List Nm} {ρ : Nm → List Int} {τ : Nm → List (List Int)} {h : Hv} {P : Val → Hv → Prop} {PP : List (List Int)} {Q : List (List (List Int))} (g : s.good) (hs : s.size ≤ 100) (e : EnvOk s l S T ρ τ) (hj : h[j]? = some (.dic l)) (w : WF f S T) (at_ : f.atom = true)
    (z : P (.bl (ev1 s PP Q f ρ τ)) h) : ok (lev D (k + 3) 3 [f.val, s.val, .ref j] h) P := by
  show ok (runDef 7 (b_atom_holds (lev D (k + 2))) [f.val, s.val, .ref j] h) P
  rw [ok_run]
  unfold b_atom_holds
  cases f with
  | tru => exact asg_ (h1 := h) (v := .str [116, 114, 117, 101]) (by simp [dVar, Fm.val]) (hit_ rfl (by simpa [ev1] using z))
  | label a x =>
    obtain ⟨_, h1, h2⟩ := e.sg x w
    refine asg_ (h1 := h) (v := .str [108, 97, 98, 101, 108]) (by simp [dVar, Fm.val]) (skip_ rfl (by decide) (hit_ rfl ?_))
    simp [dVar, Fm.val, vIx_dic hj h1]
    refine label_sp g (by omega) h2 ?_
    simpa [ev1] using z
  | child i x y =>
    obtain ⟨_, h1, h2⟩ := e.sg x w.1
    obtain ⟨_, h3, h4⟩ := e.sg y w.2
    have := path_len s [] _ h2
    simp only [List.length_nil] at this
    refine asg_ (h1 := h) (v := .str [99, 104, 105, 108, 100]) (by simp [dVar, Fm.val]) (skip_ rfl (by decide) (skip_ rfl (by decide) (hit_ rfl ?_)))
    simp [dVar, Fm.val, vIx_dic hj h1, vIx_dic hj h3, mkTup_ok]
    rw [add_tup (by simp; omega)]
    have : (ρ x).map Val.int ++ [.int i] = (ρ x ++ [i]).map .int := by simp
    simp only [ok_ok, this, vEq_pv]
    simpa [ev1] using z
  | top x =>
    obtain ⟨_, h1, h2⟩ := e.sg x w
    refine asg_ (h1 := h) (v := .str [116, 111, 112]) (by simp [dVar, Fm.val]) (skip_ rfl (by decide) (skip_ rfl (by decide) (skip_ rfl (by decide) (hit_ rfl ?_))))
    simp [dVar, Fm.val, vIx_dic hj h1, mkTup_ok]
    rw [eq_top]
    simpa [ev1] using z
  | blw x y =>
    obtain ⟨_, h1, h2⟩ := e.sg x w.1
    obtain ⟨_, h3, h4⟩ := e.sg y w.2
    refine asg_ (h1 := h) (v := .str [98, 101, 108, 111, 119]) (by simp [dVar, Fm.val]) (skip_ rfl (by decide) (skip_ rfl (by decide) (skip_ rfl (by decide) (skip_ rfl (by decide) ?_))))
    refine sok_seq (fun l h' => (∃ a b c, l = [a, b, c, some (.str [98, 101, 108, 111, 119]), some (pv (ρ x)), some (pv (ρ y)), none]) ∧ h' = h) (by simp [dVar, Fm.val, vIx_dic hj h1, vIx_dic hj h3, mkTup_ok, gTup, gsCons, gsNil]) ?_
    rintro l h ⟨⟨a, b, c, rfl⟩, rfl⟩
    refine hit_ rfl ?_
    simp only [ev1] at z
    by_cases hl : (ρ x).length < (ρ y).length
    · simp [dVar, hl, vCut, cut_take]
      rw [← List.map_take, vEq_pv]
      simpa [hl] using z
    · simp [dVar, hl]
      simpa [hl] using z
  | same x y =>
    obtain ⟨_, h1, h2⟩ := e.sg x w.1
    obtain ⟨_, h3, h4⟩ := e.sg y w.2
    refine asg_ (h1 := h) (v := .str [115, 97, 109, 101]) (by simp [dVar, Fm.val]) (skip_ rfl (by decide) (skip_ rfl (by decide) (skip_ rfl (by decide) (skip_ rfl (by decide) ?_))))
    refine sok_seq (fun l h' => (∃ a b c, l = [a, b, c, some (.str [115, 97, 109, 101]), some (pv (ρ x)), some (pv (ρ y)), none]) ∧ h' = h) (by simp [dVar, Fm.val, vIx_dic hj h1, vIx_dic hj h3, mkTup_ok, gTup, gsCons, gsNil]) ?_
    rintro l h ⟨⟨a, b, c, rfl⟩, rfl⟩
    refine skip_ rfl (by decide) (hit_ rfl ?_)
    simp [dVar]
    simpa [ev1] using z
  | inn x X =>
    obtain ⟨_, h1, h2⟩ := e.sg x w.1
    obtain ⟨_, h3⟩ := e.st X w.2
    refine asg_ (h1 := h) (v := .str [105, 110]) (by simp [dVar, Fm.val]) (skip_ rfl (by decide) (skip_ rfl (by decide) (skip_ rfl (by decide) (skip_ rfl (by decide) ?_))))
    refine sok_seq (fun l h' => (∃ a b c, l = [a, b, c, some (.str [105, 110]), some (pv (ρ x)), some (tv (τ X)), none]) ∧ h' = h) (by simp [dVar, Fm.val, vIx_dic hj h1, vIx_dic hj h3, mkTup_ok, gTup, gsCons, gsNil]) ?_
    rintro l h ⟨⟨a, b, c, rfl⟩, rfl⟩
    refine skip_ rfl (by decide) (skip_ rfl (by decide) (hit_ rfl ?_))
    simp [dVar]
    simpa [ev1] using z
  | inside X Y =>
    obtain ⟨_, h1⟩ := e.st X w.1
    obtain ⟨_, h3⟩ := e.st Y w.2
    refine asg_ (h1 := h) (v := .str [105, 110, 115, 105, 100, 101]) (by simp [dVar, Fm.val]) (skip_ rfl (by decide) (skip_ rfl (by decide) (skip_ rfl (by decide) (skip_ rfl (by decide) ?_))))
    refine sok_seq (fun l h' => (∃ a b c, l = [a, b, c, some (.str [105, 110, 115, 105, 100, 101]), some (tv (τ X)), some (tv (τ Y)), none]) ∧ h' = h) (by simp [dVar, Fm.val, vIx_dic hj h1, vIx_dic hj h3, mkTup_ok, gTup, gsCons, gsNil]) ?_
    rintro l h ⟨⟨a, b, c, rfl⟩, rfl⟩
    refine skip_ rfl (by decide) (skip_ rfl (by decide) (skip_ rfl (by decide) (ret_ ?_)))
    simp [dVar]
    refine lc_pure (fun _ => true) (fun v => match v with | .tup l => Val.bl (inSeq (.tup l) ((τ Y).map pv)) | v => v) trivial ?_ ?_
    · intro x hx
      obtain ⟨q, _, rfl⟩ := List.mem_map.mp hx
      simp [wipeL, dVar, inSeq_pv]
    · have e : (List.filter (fun _ => true) ((τ X).map pv)).map (fun v => match v with | .tup l => Val.bl (inSeq (.tup l) ((τ Y).map pv)) | v => v) = ((τ X).map fun p => decide (p ∈ τ Y)).map Val.bl := by
        generalize τ X = L
        induction L with
        | nil => rfl
        | cons a l ih => simp only [List.map_cons, List.filter_cons, if_true] at ih ⊢; rw [ih, inSeq_pv]
      rw [e, vAll_bls]
      simp only [ev1] at z
      simpa [List.all_map, Function.comp_def] using z
  | _ => cases at_
end L06

set_option Elab.async false
set_option linter.all false
set_option maxRecDepth 100000
set_option maxHeartbeats 1000000
set_option autoImplicit false
namespace L06
open GH PySem
def Fm.dep : Fm → Nat
  | .not f => f.dep + 1
  | .and f g => max f.dep g.dep + 1
  | .or f g => max f.dep g.dep + 1
  | .q1 _ _ f => f.dep + 1
  | .q2 _ _ f => f.dep + 1
  | _ => 0
@[simp] theorem e_notv (a : Den) (l : GH.Loc) (h : Hv) : dNotV a l h = (a l h).bind fun v h1 => match v with
  | .bl c => .ok (.bl (!c)) h1
  | _ => .fail := nrfl rfl
@[simp] theorem e_orv (a b : Den) (l : GH.Loc) (h : Hv) : dOrV a b l h = (a l h).bind fun v h1 => match v with
  | .bl true => .ok (.bl true) h1
  | .bl false => b l h1
  | _ => .fail := by
  unfold dOrV
  cases a l h with
  | ok v h1 => cases v <;> first | rfl | (rename_i b; cases b <;> rfl)
  | exc e h1 => rfl
  | fail => rfl
abbrev Rt (h : Hv) (P : Val → Hv → Prop) : Val → Hv → Prop := fun v h' => (∃ g, h' = h ++ g) ∧ okV v = true ∧ P v h
theorem vIn_strs {w : Nm} {ws : List Nm} {h : Hv} (e : inOk (.str w) (ws.map .str) = true) : vIn (.str w) (.tup (ws.map .str)) h = .ok (.bl (decide (w ∈ ws))) h ∧ vIn (.str w) (.lst (ws.map .str)) h = .ok (.bl (decide (w ∈ ws))) h := by
  have i : inSeq (.str w) (ws.map .str) = decide (w ∈ ws) := by
    clear e
    unfold inSeq
    induction ws with
    | nil => rfl
    | cons a s ih =>
      simp only [List.map_cons, List.any_cons, ih, veq_str]
      by_cases h1 : a = w <;> by_cases h2 : w ∈ s <;> simp [h1, h2, eq_comm]
      intro e; exact absurd e.symm h1
  constructor <;> simp only [vIn, isIn, seqOf, lstOf, thaw, e, if_true, i, Res.bind_ok]
section
variable {l : GH.Loc} {h : Hv} {P : Post} {rest a : Stm} {i : Nat} {u : Nm} {d : Den} {c : Bool}
/-- a test that is known -/
theorem if_ {t : DenG Bool} (e : t l h = .ok c h) (z1 : c = true → sok (a l h) { P with nx := fun l h => sok (rest l h) P }) (z2 : c = false → sok (rest l h) P) : sok (sSeq (sIf t a sNext) rest l h) P := by
  rw [e_seq, sok_then]
  simp only [e_if, e, Res.to_ok]
  cases c with
  | true => simpa using z1 rfl
  | false => simpa using z2 rfl
end
theorem anyq {α : Type} {L : List α} {b : Bool} (e : α → Bool) : (if L.any (fun a => e a == b) then b else !b) = (if L.any (fun a => e a == b) then b else !b) := rfl
theorem q_loop {α : Type} {V : α → Val} {vals : List α} {E : α → Bool} {b : Bool} {x : Nm} {w fv sv : Val} {K j : Nat} {h : Hv} {l : List (Val × Val)} {P : Val → Hv → Prop} {N : GH.Loc → Hv → Prop} (hj : h[j]? = some (.dic l)) (hl : l.length ≤ 1000)
    (call : ∀ v ∈ vals, ∀ (i : Nat) (h' : Hv) (P : Val → Hv → Prop), h'[i]? = some (.dic (dPut l (.str x) (V v))) → P (.bl (E v)) h' → ok (lev D (K + 1) 6 [fv, sv, .ref i] h') P)
    (z : P (.bl (if vals.any (fun v => E v == b) then b else !b)) h) :
    sok (sSeq (sFor (iSeq (dVar 4)) (gName 6) (sSeq (sIf (dB (dBin vEq (dCall (lev D (K + 1) 6) (dCons (dBin vIx (dVar 0) (dC (.int 2))) (dCons (dVar 1) (dCons (dCall (lev D (K + 1) 5) (dCons (dVar 2) (dCons (dBin vIx (dVar 0) (dC (.int 1))) (dCons (dVar 6) dNil)))) dNil)))) (dVar 5))) (sSeq (sRet (dVar 5)) sNext) sNext) sNext))
      (sSeq (sRet (dNotV (dVar 5))) sNext) [some (.tup [w, .str x, fv]), some sv, some (.ref j), some w, some (.lst (vals.map V)), some (.bl b), none] h) { nx := N, rt := Rt h P } := by
  have hjl : j < h.length := (List.getElem?_eq_some_iff.mp hj).1
  refine sok_seq (fun l' h' => (∃ g y, h' = h ++ g ∧ l' = [some (.tup [w, .str x, fv]), some sv, some (.ref j), some w, some (.lst (vals.map V)), some (.bl b), y]) ∧ vals.any (fun v => E v == b) = false) ?_ ?_
  · simp only [e_for, e_iseq, dVar, List.getElem?_cons_succ, List.getElem?_cons_zero, Res.bind_ok, vIter_lst, Res.to_ok]
    refine forL_inv (fun items l' h' => ∃ (rest : List α) (g : Hv) (y : Option Val), items = rest.map V ∧ (∀ v ∈ rest, v ∈ vals) ∧ h' = h ++ g ∧ l' = [some (.tup [w, .str x, fv]), some sv, some (.ref j), some w, some (.lst (vals.map V)), some (.bl b), y] ∧ vals.any (fun v => E v == b) = rest.any (fun v => E v == b)) ?_ ?_ _ _ _ ⟨vals, [], none, rfl, fun v hv => hv, by simp, rfl, rfl⟩
    · rintro v items l' h' ⟨rest, g, y, e, hr, rfl, rfl, ha⟩
      cases rest with
      | nil => cases e
      | cons a rest =>
        simp only [List.map_cons, List.cons.injEq] at e
        obtain ⟨rfl, rfl⟩ := e
        refine ⟨trivial, ?_⟩
        have hj' : (h ++ g)[j]? = some (.dic l) := by rw [List.getElem?_append_left hjl]; exact hj
        simp [dVar]
        refine with_sp hj' (by omega) ?_
        refine call a (hr a (List.mem_cons_self ..)) _ _ _ (by simp) ?_
        simp only [vEq_bl, ok_ok]
        by_cases hE : E a = b
        · simp [hE]
          have : vals.any (fun v => E v == b) = true := by rw [ha]; simp [hE]
          rw [this] at z
          exact ⟨⟨g ++ [Ob.dic (dPut l (.str x) (V a))], by simp⟩, rfl, by simpa using z⟩
        · simp [hE]
          refine ⟨rest, rfl, fun v hv => hr v (List.mem_cons_of_mem _ hv), ?_⟩
          rw [ha]
          simp [hE]
    · rintro l' h' ⟨rest, g, y, e, hr, rfl, rfl, ha⟩
      cases rest with
      | cons => cases e
      | nil => exact ⟨trivial, ⟨g, y, rfl, rfl⟩, by simpa using ha⟩
  · rintro l' h' ⟨⟨g, y, rfl, rfl⟩, ha⟩
    refine ret_ ?_
    simp [dVar]
    rw [ha] at z
    exact ⟨⟨g, rfl⟩, rfl, by simpa using z⟩
theorem hold_atom {k j : Nat} {s : Sh} {f : Fm} {l : List (Val × Val)} {S T : List Nm} {ρ : Nm → List Int} {τ : Nm → List (List Int)} {h : Hv} {P : Val → Hv → Prop} {PP : List (List Int)} {Q : List (List (List Int))} (g : s.good) (hs : s.size ≤ 100) (e : EnvOk s l S T ρ τ) (hj : h[j]? = some (.dic l)) (w : WF f S T) (at_ : f.atom = true)
    (wd : Nm) (hw : ∃ r, f.val = .tup (.str wd :: r)) (n1 : wd ≠ [110, 111, 116]) (n2 : wd ≠ [97, 110, 100]) (n3 : wd ≠ [111, 114]) (n4 : inOk (.str wd) ([[115, 111, 109, 101], [97, 108, 108], [115, 111, 109, 101, 115, 101, 116], [97, 108, 108, 115, 101, 116]].map .str) = true ∧ wd ∉ [[115, 111, 109, 101], [97, 108, 108], [115, 111, 109, 101, 115, 101, 116], [97, 108, 108, 115, 101, 116]])
    (z : P (.bl (ev1 s PP Q f ρ τ)) h) : ok (lev D (k + 0 + 4) 6 [f.val, s.val, .ref j] h) P := by
  show ok (tidy (runDef 7 (b_holds (lev D (k + 3))) [f.val, s.val, .ref j] h) h) P
  refine tidy_app ?_
  rw [ok_run]; unfold b_holds
  obtain ⟨r, hr⟩ := hw
  refine asg_ (h1 := h) (v := .str wd) (by simp [dVar, hr]) (skip_ rfl n1 (skip_ rfl n2 (skip_ rfl n3 (if_ (c := false) ?_ (fun z => by cases z) (fun _ => ret_ ?_)))))
  · simp [dVar, mkTup_ok]
    refine (congrArg (resB ·) (vIn_strs (w := wd) (ws := [[115, 111, 109, 101], [97, 108, 108], [115, 111, 109, 101, 115, 101, 116], [97, 108, 108, 115, 101, 116]]) (h := h) n4.1).1).trans ?_
    rw [decide_eq_false n4.2]
    rfl
  · simp [dVar]
    refine atom_a (PP := PP) (Q := Q) g hs e hj w at_ ?_
    exact ⟨⟨[], by simp⟩, rfl, z⟩
theorem holds_a {s : Sh} (g : s.good) (hs : s.size ≤ 10) {L : List (List Int)} (hL1 : ∀ q, q ∈ L ↔ q ∈ pathsOf s []) (hL2 : L.length = s.size) (hL : ∀ (k : Nat) (h : Hv) (P : Val → Hv → Prop), P (.lst (L.map pv)) h → ok (lev D (k + 2) 1 [s.val] h) P) :
    ∀ (f : Fm) {k j : Nat} {h : Hv} {l : List (Val × Val)} {S T : List Nm} {ρ : Nm → List Int} {τ : Nm → List (List Int)} {P : Val → Hv → Prop}, EnvOk s l S T ρ τ → h[j]? = some (.dic l) → WF f S T → l.length + f.dep ≤ 1000 →
      P (.bl (ev1 s L (subs L) f ρ τ)) h → ok (lev D (k + f.dep + 4) 6 [f.val, s.val, .ref j] h) P := by
  intro f
  induction f with
  | not f ih =>
    intro k j h l S T ρ τ P e hj w hl z
    simp only [Fm.dep] at hl ⊢
    show ok (tidy (runDef 7 (b_holds (lev D (k + f.dep + 4))) [(Fm.not f).val, s.val, .ref j] h) h) P
    refine tidy_app ?_
    rw [ok_run]; unfold b_holds
    refine asg_ (h1 := h) (v := .str [110, 111, 116]) (by simp [dVar, Fm.val]) (hit_ rfl ?_)
    simp [dVar, Fm.val]
    refine ih e hj w (by omega) ?_
    simp
    exact ⟨rfl, by simpa [ev1] using z⟩
  | and f g ih1 ih2 =>
    intro k j h l S T ρ τ P e hj w hl z
    simp only [Fm.dep] at hl ⊢
    show ok (tidy (runDef 7 (b_holds (lev D (k + max f.dep g.dep + 4))) [(Fm.and f g).val, s.val, .ref j] h) h) P
    refine tidy_app ?_
    rw [ok_run]; unfold b_holds
    refine asg_ (h1 := h) (v := .str [97, 110, 100]) (by simp [dVar, Fm.val]) (skip_ rfl (by decide) (hit_ rfl ?_))
    simp [dVar, Fm.val]
    rw [show k + max f.dep g.dep + 4 = (k + max f.dep g.dep - f.dep) + f.dep + 4 by omega]
    refine ih1 e hj w.1 (by omega) ?_
    cases e1 : ev1 s L (subs L) f ρ τ with
    | false => simp; exact ⟨rfl, by simpa [ev1, e1] using z⟩
    | true =>
      simp only
      rw [show (k + max f.dep g.dep - f.dep) + f.dep + 4 = (k + max f.dep g.dep - g.dep) + g.dep + 4 by omega]
      refine ih2 e hj w.2 (by omega) ?_
      exact ⟨⟨[], by simp⟩, rfl, by simpa [ev1, e1] using z⟩
  | or f g ih1 ih2 =>
    intro k j h l S T ρ τ P e hj w hl z
    simp only [Fm.dep] at hl ⊢
    show ok (tidy (runDef 7 (b_holds (lev D (k + max f.dep g.dep + 4))) [(Fm.or f g).val, s.val, .ref j] h) h) P
    refine tidy_app ?_
    rw [ok_run]; unfold b_holds
    refine asg_ (h1 := h) (v := .str [111, 114]) (by simp [dVar, Fm.val]) (skip_ rfl (by decide) (skip_ rfl (by decide) (hit_ rfl ?_)))
    simp [dVar, Fm.val]
    rw [show k + max f.dep g.dep + 4 = (k + max f.dep g.dep - f.dep) + f.dep + 4 by omega]
    refine ih1 e hj w.1 (by omega) ?_
    cases e1 : ev1 s L (subs L) f ρ τ with
    | true => simp; exact ⟨rfl, by simpa [ev1, e1] using z⟩
    | false =>
      simp only
      rw [show (k + max f.dep g.dep - f.dep) + f.dep + 4 = (k + max f.dep g.dep - g.dep) + g.dep + 4 by omega]
      refine ih2 e hj w.2 (by omega) ?_
      exact ⟨⟨[], by simp⟩, rfl, by simpa [ev1, e1] using z⟩
  | q1 b x f ih =>
    intro k j h l S T ρ τ P e hj w hl z
    simp only [Fm.dep] at hl ⊢
    show ok (tidy (runDef 7 (b_holds (lev D (k + f.dep + 4))) [(Fm.q1 b x f).val, s.val, .ref j] h) h) P
    refine tidy_app ?_
    rw [ok_run]; unfold b_holds
    refine asg_ (h1 := h) (v := .str (if b then [115, 111, 109, 101] else [97, 108, 108])) (by simp [dVar, Fm.val]) (skip_ rfl (by cases b <;> decide) (skip_ rfl (by cases b <;> decide) (skip_ rfl (by cases b <;> decide) (if_ (c := true) ?_ (fun _ => ?_) (fun z => by cases z)))))
    · cases b <;> simp [dVar, mkTup_ok, (vIn_strs (ws := [[115, 111, 109, 101], [97, 108, 108], [115, 111, 109, 101, 115, 101, 116], [97, 108, 108, 115, 101, 116]]) (h := h) (show inOk (.str [115, 111, 109, 101]) _ = true by decide)).1, (vIn_strs (ws := [[115, 111, 109, 101], [97, 108, 108], [115, 111, 109, 101, 115, 101, 116], [97, 108, 108, 115, 101, 116]]) (h := h) (show inOk (.str [97, 108, 108]) _ = true by decide)).1]
      · exact (congrArg (resB ·) (vIn_strs (w := [97, 108, 108]) (ws := [[115, 111, 109, 101], [97, 108, 108], [115, 111, 109, 101, 115, 101, 116], [97, 108, 108, 115, 101, 116]]) (h := h) (by decide)).1).trans rfl
      · exact (congrArg (resB ·) (vIn_strs (w := [115, 111, 109, 101]) (ws := [[115, 111, 109, 101], [97, 108, 108], [115, 111, 109, 101, 115, 101, 116], [97, 108, 108, 115, 101, 116]]) (h := h) (by decide)).1).trans rfl
    · refine sok_seq (fun l' h' => l' = [some (Fm.q1 b x f).val, some s.val, some (.ref j), some (.str (if b then [115, 111, 109, 101] else [97, 108, 108])), some (.lst (L.map pv)), none, none] ∧ h' = h) ?_ ?_
      · simp [dVar]
        rw [show k + f.dep + 4 = (k + f.dep + 2) + 2 by omega]
        exact hL _ _ _ ⟨rfl, rfl⟩
      rintro l' h ⟨rfl, rfl⟩
      refine if_ (c := false) (by cases b <;> rfl) (fun z => by cases z) (fun _ => ?_)
      refine asg_ (h1 := h) (v := .bl b) (by cases b <;> rfl) ?_
      exact q_loop (V := pv) (E := fun p => ev1 s L (subs L) f (fun y => if y = x then p else ρ y) τ) hj (by omega) (fun p hp i h' P hi q => by
        refine ih (e.bind1 w.1 ((hL1 p).mp hp)) hi w.2 ?_ q
        have := dput_len l (.str x) (pv p)
        omega) (by simpa [ev1] using z)
  | q2 b X f ih =>
    intro k j h l S T ρ τ P e hj w hl z
    simp only [Fm.dep] at hl ⊢
    show ok (tidy (runDef 7 (b_holds (lev D (k + f.dep + 4))) [(Fm.q2 b X f).val, s.val, .ref j] h) h) P
    refine tidy_app ?_
    rw [ok_run]; unfold b_holds
    refine asg_ (h1 := h) (v := .str (if b then [115, 111, 109, 101, 115, 101, 116] else [97, 108, 108, 115, 101, 116])) (by simp [dVar, Fm.val]) (skip_ rfl (by cases b <;> decide) (skip_ rfl (by cases b <;> decide) (skip_ rfl (by cases b <;> decide) (if_ (c := true) ?_ (fun _ => ?_) (fun z => by cases z)))))
    · cases b <;> simp [dVar, mkTup_ok]
      · exact (congrArg (resB ·) (vIn_strs (w := [97, 108, 108, 115, 101, 116]) (ws := [[115, 111, 109, 101], [97, 108, 108], [115, 111, 109, 101, 115, 101, 116], [97, 108, 108, 115, 101, 116]]) (h := h) (by decide)).1).trans rfl
      · exact (congrArg (resB ·) (vIn_strs (w := [115, 111, 109, 101, 115, 101, 116]) (ws := [[115, 111, 109, 101], [97, 108, 108], [115, 111, 109, 101, 115, 101, 116], [97, 108, 108, 115, 101, 116]]) (h := h) (by decide)).1).trans rfl
    · refine sok_seq (fun l' h' => l' = [some (Fm.q2 b X f).val, some s.val, some (.ref j), some (.str (if b then [115, 111, 109, 101, 115, 101, 116] else [97, 108, 108, 115, 101, 116])), some (.lst (L.map pv)), none, none] ∧ h' = h) ?_ ?_
      · simp [dVar]
        rw [show k + f.dep + 4 = (k + f.dep + 2) + 2 by omega]
        exact hL _ _ _ ⟨rfl, rfl⟩
      rintro l' h ⟨rfl, rfl⟩
      refine if_ (c := true) (by cases b <;> rfl) (fun _ => ?_) (fun z => by cases z)
      refine sok_seq (fun l' h' => l' = [some (Fm.q2 b X f).val, some s.val, some (.ref j), some (.str (if b then [115, 111, 109, 101, 115, 101, 116] else [97, 108, 108, 115, 101, 116])), some (.lst ((subs L).map tv)), none, none] ∧ h' = h) ?_ ?_
      · simp [dVar]
        rw [show k + f.dep + 4 = (k + f.dep + 3) + 1 by omega]
        exact subs_a (by omega) ⟨rfl, rfl⟩
      rintro l' h ⟨rfl, rfl⟩
      simp only [e_next, sok_nx]
      refine asg_ (h1 := h) (v := .bl b) (by cases b <;> rfl) ?_
      exact q_loop (V := tv) (E := fun a => ev1 s L (subs L) f ρ (fun Y => if Y = X then a else τ Y)) hj (by omega) (fun a ha i h' P hi q => by
        refine ih (e.bind2 w.1) hi w.2 ?_ q
        have := dput_len l (.str X) (tv a)
        omega) (by simpa [ev1] using z)
  | tru =>
    intro k j h l S T ρ τ P e hj w hl z
    exact hold_atom g (by omega) e hj w rfl [116, 114, 117, 101] (by simp [Fm.val]) (by decide) (by decide) (by decide) (by decide) z
  | label a x =>
    intro k j h l S T ρ τ P e hj w hl z
    exact hold_atom g (by omega) e hj w rfl [108, 97, 98, 101, 108] (by simp [Fm.val]) (by decide) (by decide) (by decide) (by decide) z
  | child i x y =>
    intro k j h l S T ρ τ P e hj w hl z
    exact hold_atom g (by omega) e hj w rfl [99, 104, 105, 108, 100] (by simp [Fm.val]) (by decide) (by decide) (by decide) (by decide) z
  | top x =>
    intro k j h l S T ρ τ P e hj w hl z
    exact hold_atom g (by omega) e hj w rfl [116, 111, 112] (by simp [Fm.val]) (by decide) (by decide) (by decide) (by decide) z
  | blw x y =>
    intro k j h l S T ρ τ P e hj w hl z
    exact hold_atom g (by omega) e hj w rfl [98, 101, 108, 111, 119] (by simp [Fm.val]) (by decide) (by decide) (by decide) (by decide) z
  | same x y =>
    intro k j h l S T ρ τ P e hj w hl z
    exact hold_atom g (by omega) e hj w rfl [115, 97, 109, 101] (by simp [Fm.val]) (by decide) (by decide) (by decide) (by decide) z
  | inn x X =>
    intro k j h l S T ρ τ P e hj w hl z
    exact hold_atom g (by omega) e hj w rfl [105, 110] (by simp [Fm.val]) (by decide) (by decide) (by decide) (by decide) z
  | inside X Y =>
    intro k j h l S T ρ τ P e hj w hl z
    exact hold_atom g (by omega) e hj w rfl [105, 110, 115, 105, 100, 101] (by simp [Fm.val]) (by decide) (by decide) (by decide) (by decide) z
end L06

set_option Elab.async false
set_option linter.all false
set_option maxRecDepth 100000
set_option maxHeartbeats 1000000
set_option autoImplicit false
namespace L06
open GH PySem
def strsD : List Nm → DenG (List Val)
  | [] => dNil
  | a :: r => dCons (dC (.str a)) (strsD r)
theorem strsD_run (l : GH.Loc) (h : Hv) : ∀ ws : List Nm, strsD ws l h = .ok (ws.map .str) h
  | [] => rfl
  | a :: r => by simp [strsD, strsD_run l h r]
theorem inV {w : Nm} {ws : List Nm} {l : GH.Loc} {h : Hv} {i : Nat} {c : Bool} (hl : l[i]? = some (some (.str w))) (n : ws.length ≤ 100) (e : inOk (.str w) (ws.map .str) = true) (d : decide (w ∈ ws) = c) : dBin vIn (dVar i) (dLst (strsD ws)) l h = .ok (.bl c) h := by
  simp only [e_bin, dVar, hl, Res.bind_ok, e_lst, strsD_run]
  rw [mkLst_ok (by simp; omega)]
  simp only [Res.bind_ok]
  rw [(vIn_strs e).2, d]
theorem inB {w : Nm} {ws : List Nm} {l : GH.Loc} {h : Hv} {i : Nat} {c : Bool} (hl : l[i]? = some (some (.str w))) (n : ws.length ≤ 100) (e : inOk (.str w) (ws.map .str) = true) (d : decide (w ∈ ws) = c) : dB (dBin vIn (dVar i) (dLst (strsD ws))) l h = .ok c h := by
  rw [e_b, inV hl n e d]; rfl
theorem atom_b {k j : Nat} {s : Sh} {f : Fm} {l : List (Val × Val)} {S T : List Nm} {ρ : Nm → List Int} {τ : Nm → List (List Int)} {h : Hv} {P : Val → Hv → Prop} {PP : List (List Int)} {Q : List (List (List Int))} (g : s.good) (hs : s.size ≤ 100) (e : EnvOk s l S T ρ τ) (hj : h[j]? = some (.dic l)) (w : WF f S T) (at_ : f.atom = true)
    (z : P (.bl (ev1 s PP Q f ρ τ)) h) : ok (lev D (k + 3) 21 [f.val, s.val, .ref j] h) P := by
  show ok (runDef 7 (b__law_atom_holds (lev D (k + 2))) [f.val, s.val, .ref j] h) P
  rw [ok_run]
  unfold b__law_atom_holds
  cases f with
  | tru => exact asg_ (h1 := h) (v := .str [116, 114, 117, 101]) (by simp [dVar, Fm.val]) (hit_ rfl (by simpa [ev1] using z))
  | label a x =>
    obtain ⟨_, h1, h2⟩ := e.sg x w
    refine asg_ (h1 := h) (v := .str [108, 97, 98, 101, 108]) (by simp [dVar, Fm.val]) (skip_ rfl (by decide) (hit_ rfl ?_))
    obtain ⟨c, hc⟩ := path_el h2
    obtain ⟨n, e1, e2⟩ := el_lab hc
    simp [dVar, Fm.val, vIx_dic hj h1]
    refine lpart _ _ c e2 ?_
    simp only [lab_ix _ n, ok_ok, vEq_str]
    rw [← e1]
    simpa [ev1] using z
  | child i x y =>
    obtain ⟨_, h1, h2⟩ := e.sg x w.1
    obtain ⟨_, h3, h4⟩ := e.sg y w.2
    have := path_len s [] _ h2
    simp only [List.length_nil] at this
    refine asg_ (h1 := h) (v := .str [99, 104, 105, 108, 100]) (by simp [dVar, Fm.val]) (skip_ rfl (by decide) (skip_ rfl (by decide) (skip_ rfl (by decide) ?_)))
    refine asg_ (h1 := h) (v := pv (ρ x)) (by simp [dVar, Fm.val, vIx_dic hj h1]) (asg_ (h1 := h) (v := pv (ρ y)) (by simp [dVar, Fm.val, vIx_dic hj h3]) ?_)
    refine hit_ rfl ?_
    simp [dVar, Fm.val, mkTup_ok]
    rw [add_tup (by simp; omega)]
    have : (ρ x).map Val.int ++ [.int i] = (ρ x ++ [i]).map .int := by simp
    simp only [ok_ok, this, vEq_pv]
    simpa [ev1] using z
  | top x =>
    obtain ⟨_, h1, h2⟩ := e.sg x w
    refine asg_ (h1 := h) (v := .str [116, 111, 112]) (by simp [dVar, Fm.val]) (skip_ rfl (by decide) (skip_ rfl (by decide) (hit_ rfl ?_)))
    simp [dVar, Fm.val, vIx_dic hj h1, mkTup_ok]
    rw [eq_top]
    simpa [ev1] using z
  | blw x y =>
    obtain ⟨_, h1, h2⟩ := e.sg x w.1
    obtain ⟨_, h3, h4⟩ := e.sg y w.2
    refine asg_ (h1 := h) (v := .str [98, 101, 108, 111, 119]) (by simp [dVar, Fm.val]) (skip_ rfl (by decide) (skip_ rfl (by decide) (skip_ rfl (by decide) ?_)))
    refine asg_ (h1 := h) (v := pv (ρ x)) (by simp [dVar, Fm.val, vIx_dic hj h1]) (asg_ (h1 := h) (v := pv (ρ y)) (by simp [dVar, Fm.val, vIx_dic hj h3]) ?_)
    refine skip_ rfl (by decide) (hit_ rfl ?_)
    simp only [ev1] at z
    by_cases hl : (ρ x).length < (ρ y).length
    · simp [dVar, hl, vCut, cut_take]
      rw [← List.map_take, vEq_pv]
      simpa [hl] using z
    · simp [dVar, hl]
      simpa [hl] using z
  | same x y =>
    obtain ⟨_, h1, h2⟩ := e.sg x w.1
    obtain ⟨_, h3, h4⟩ := e.sg y w.2
    refine asg_ (h1 := h) (v := .str [115, 97, 109, 101]) (by simp [dVar, Fm.val]) (skip_ rfl (by decide) (skip_ rfl (by decide) (skip_ rfl (by decide) ?_)))
    refine asg_ (h1 := h) (v := pv (ρ x)) (by simp [dVar, Fm.val, vIx_dic hj h1]) (asg_ (h1 := h) (v := pv (ρ y)) (by simp [dVar, Fm.val, vIx_dic hj h3]) ?_)
    refine skip_ rfl (by decide) (skip_ rfl (by decide) (hit_ rfl ?_))
    simp [dVar]
    simpa [ev1] using z
  | inn x X =>
    obtain ⟨_, h1, h2⟩ := e.sg x w.1
    obtain ⟨_, h3⟩ := e.st X w.2
    refine asg_ (h1 := h) (v := .str [105, 110]) (by simp [dVar, Fm.val]) (skip_ rfl (by decide) (skip_ rfl (by decide) (skip_ rfl (by decide) ?_)))
    refine asg_ (h1 := h) (v := pv (ρ x)) (by simp [dVar, Fm.val, vIx_dic hj h1]) (asg_ (h1 := h) (v := tv (τ X)) (by simp [dVar, Fm.val, vIx_dic hj h3]) ?_)
    refine skip_ rfl (by decide) (skip_ rfl (by decide) (skip_ rfl (by decide) (hit_ rfl ?_)))
    simp [dVar]
    simpa [ev1] using z
  | inside X Y =>
    obtain ⟨_, h1⟩ := e.st X w.1
    obtain ⟨_, h3⟩ := e.st Y w.2
    refine asg_ (h1 := h) (v := .str [105, 110, 115, 105, 100, 101]) (by simp [dVar, Fm.val]) (skip_ rfl (by decide) (skip_ rfl (by decide) (skip_ rfl (by decide) ?_)))
    refine asg_ (h1 := h) (v := tv (τ X)) (by simp [dVar, Fm.val, vIx_dic hj h1]) (asg_ (h1 := h) (v := tv (τ Y)) (by simp [dVar, Fm.val, vIx_dic hj h3]) ?_)
    refine skip_ rfl (by decide) (skip_ rfl (by decide) (skip_ rfl (by decide) (skip_ rfl (by decide) (ret_ ?_))))
    simp [dVar]
    refine lc_pure (fun v => match v with | .tup l => !inSeq (.tup l) ((τ Y).map pv) | _ => false) (fun v => v) trivial ?_ ?_
    · intro x hx
      obtain ⟨q, _, rfl⟩ := List.mem_map.mp hx
      simp [wipeL, dVar, inSeq_pv]
    · have e : ∀ M : List (List Int), ((M.map pv).filter (fun v => match v with | .tup l => !inSeq (.tup l) ((τ Y).map pv) | _ => false)).map (fun v => v) = (M.filter fun p => !decide (p ∈ τ Y)).map pv := by
        intro M
        induction M with
        | nil => rfl
        | cons a l ih =>
          simp only [List.map_cons, List.filter_cons, inSeq_pv] at ih ⊢
          split <;> simp [ih]
      rw [e]
      have q : ∀ M : List (List Int), okVs (M.map pv) = true ∧ veq (.lst (M.map pv)) (.lst []) = M.isEmpty := fun M => ⟨okVs_pvs M, by cases M <;> rfl⟩
      obtain ⟨q1, q2⟩ := q ((τ X).filter fun p => !decide (p ∈ τ Y))
      have q3 := dpVs_pvs ((τ X).filter fun p => !decide (p ∈ τ Y))
      simp only [mkLst_ok (vs := []) (by simp), ok_ok]
      simp only [vEq, thaw, eqOk, okV, okVs, q1, Bool.and_self, Bool.true_and, dpV, dpVs]
      rw [if_pos (by simp), q2]
      simp only [ev1] at z
      have : ((τ X).filter fun p => !decide (p ∈ τ Y)).isEmpty = (τ X).all fun p => decide (p ∈ τ Y) := by
        generalize τ X = M
        induction M with
        | nil => rfl
        | cons a l ih =>
          simp only [List.filter_cons, List.all_cons]
          by_cases ha : a ∈ τ Y <;> simp [ha] at ih ⊢
          exact ih
      rw [this]
      exact z
  | _ => cases at_
theorem q_loopb {α : Type} {V : α → Val} {vals : List α} {E : α → Bool} {b : Bool} {x : Nm} {w fv sv : Val} {K j : Nat} {h : Hv} {l : List (Val × Val)} {P : Val → Hv → Prop} {N : GH.Loc → Hv → Prop} (hj : h[j]? = some (.dic l)) (hl : l.length ≤ 1000)
    (call : ∀ v ∈ vals, ∀ (i : Nat) (h' : Hv) (P : Val → Hv → Prop), h'[i]? = some (.dic (dPut l (.str x) (V v))) → P (.bl (E v)) h' → ok (lev D (K + 1) 22 [fv, sv, .ref i] h') P)
    (z : P (.bl (if vals.any (fun v => E v == b) then b else !b)) h) :
    sok (sSeq (sFor (iSeq (dVar 4)) (gName 6) (sSeq (sAsg (dFn vDict (dVar 2)) (gName 7)) (sSeq (sAsg (dVar 6) (gSub (dVar 7) (dBin vIx (dVar 0) (dC (.int 1))))) (sSeq (sIf (dB (dBin vEq (dCall (lev D (K + 1) 22) (dCons (dBin vIx (dVar 0) (dC (.int 2))) (dCons (dVar 1) (dCons (dVar 7) dNil)))) (dVar 5))) (sSeq (sRet (dVar 5)) sNext) sNext) sNext))))
      (sSeq (sRet (dNotV (dVar 5))) sNext) [some (.tup [w, .str x, fv]), some sv, some (.ref j), some w, some (.lst (vals.map V)), some (.bl b), none, none] h) { nx := N, rt := Rt h P } := by
  have hjl : j < h.length := (List.getElem?_eq_some_iff.mp hj).1
  refine sok_seq (fun l' h' => (∃ g y y2, h' = h ++ g ∧ l' = [some (.tup [w, .str x, fv]), some sv, some (.ref j), some w, some (.lst (vals.map V)), some (.bl b), y, y2]) ∧ vals.any (fun v => E v == b) = false) ?_ ?_
  · simp only [e_for, e_iseq, dVar, List.getElem?_cons_succ, List.getElem?_cons_zero, Res.bind_ok, vIter_lst, Res.to_ok]
    refine forL_inv (fun items l' h' => ∃ (rest : List α) (g : Hv) (y y2 : Option Val), items = rest.map V ∧ (∀ v ∈ rest, v ∈ vals) ∧ h' = h ++ g ∧ l' = [some (.tup [w, .str x, fv]), some sv, some (.ref j), some w, some (.lst (vals.map V)), some (.bl b), y, y2] ∧ vals.any (fun v => E v == b) = rest.any (fun v => E v == b)) ?_ ?_ _ _ _ ⟨vals, [], none, none, rfl, fun v hv => hv, by simp, rfl, rfl⟩
    · rintro v items l' h' ⟨rest, g, y, y2, e, hr, rfl, rfl, ha⟩
      cases rest with
      | nil => cases e
      | cons a rest =>
        simp only [List.map_cons, List.cons.injEq] at e
        obtain ⟨rfl, rfl⟩ := e
        refine ⟨trivial, ?_⟩
        have hj' : (h ++ g)[j]? = some (.dic l) := by rw [List.getElem?_append_left hjl]; exact hj
        simp only [tok_ok, e_name]
        refine asg_ (h1 := h ++ g ++ [.dic l]) (v := .ref (h ++ g).length) (by simp only [e_fn, dVar, List.getElem?_cons_succ, List.getElem?_cons_zero, List.set_cons_succ, List.set_cons_zero, Res.bind_ok]; exact dict_ref hj') ?_
        refine sok_seq (fun l' h' => l' = [some (.tup [w, .str x, fv]), some sv, some (.ref j), some w, some (.lst (vals.map V)), some (.bl b), some (V a), some (.ref (h ++ g).length)] ∧ h' = h ++ g ++ [.dic (dPut l (.str x) (V a))]) ?_ ?_
        · simp only [e_asg, e_sub, e_bin, e_c, dVar, List.getElem?_cons_succ, List.getElem?_cons_zero, List.set_cons_succ, List.set_cons_zero, Res.bind_ok, Res.to_ok, Res.toT_ok, t1, set_last (show l.length < 16777216 by omega), TRes.s_ok, sok_nx]
          simp
        rintro l' h' ⟨rfl, rfl⟩
        simp [dVar]
        refine call a (hr a (List.mem_cons_self ..)) _ _ _ (by simp) ?_
        simp only [vEq_bl, ok_ok]
        by_cases hE : E a = b
        · simp [hE]
          have : vals.any (fun v => E v == b) = true := by rw [ha]; simp [hE]
          rw [this] at z
          exact ⟨⟨g ++ [Ob.dic (dPut l (.str x) (V a))], by simp⟩, rfl, by simpa using z⟩
        · simp [hE]
          refine ⟨rest, rfl, fun v hv => hr v (List.mem_cons_of_mem _ hv), ?_⟩
          rw [ha]
          simp [hE]
    · rintro l' h' ⟨rest, g, y, y2, e, hr, rfl, rfl, ha⟩
      cases rest with
      | cons => cases e
      | nil => exact ⟨trivial, ⟨g, y, y2, rfl, rfl⟩, by simpa using ha⟩
  · rintro l' h' ⟨⟨g, y, y2, rfl, rfl⟩, ha⟩
    refine ret_ ?_
    simp [dVar]
    rw [ha] at z
    exact ⟨⟨g, rfl⟩, rfl, by simpa using z⟩
theorem hold_atomb {k j : Nat} {s : Sh} {f : Fm} {l : List (Val × Val)} {S T : List Nm} {ρ : Nm → List Int} {τ : Nm → List (List Int)} {h : Hv} {P : Val → Hv → Prop} {PP : List (List Int)} {Q : List (List (List Int))} (g : s.good) (hs : s.size ≤ 100) (e : EnvOk s l S T ρ τ) (hj : h[j]? = some (.dic l)) (w : WF f S T) (at_ : f.atom = true)
    (wd : Nm) (hw : ∃ r, f.val = .tup (.str wd :: r)) (n1 : wd ≠ [110, 111, 116]) (n2 : wd ≠ [97, 110, 100]) (n3 : wd ≠ [111, 114]) (n4 : inOk (.str wd) ([[115, 111, 109, 101], [97, 108, 108], [115, 111, 109, 101, 115, 101, 116], [97, 108, 108, 115, 101, 116]].map .str) = true ∧ wd ∉ [[115, 111, 109, 101], [97, 108, 108], [115, 111, 109, 101, 115, 101, 116], [97, 108, 108, 115, 101, 116]])
    (z : P (.bl (ev1 s PP Q f ρ τ)) h) : ok (lev D (k + 0 + 4) 22 [f.val, s.val, .ref j] h) P := by
  show ok (tidy (runDef 8 (b__law_holds (lev D (k + 3))) [f.val, s.val, .ref j] h) h) P
  refine tidy_app ?_
  rw [ok_run]; unfold b__law_holds
  obtain ⟨r, hr⟩ := hw
  refine asg_ (h1 := h) (v := .str wd) (by simp [dVar, hr]) (skip_ rfl n1 (skip_ rfl n2 (skip_ rfl n3 (if_ (c := false) ?_ (fun z => by cases z) (fun _ => ret_ ?_)))))
  · exact inB (w := wd) (ws := [[115, 111, 109, 101], [97, 108, 108], [115, 111, 109, 101, 115, 101, 116], [97, 108, 108, 115, 101, 116]]) rfl (by decide) n4.1 (decide_eq_false n4.2)
  · simp [dVar]
    refine atom_b (PP := PP) (Q := Q) g hs e hj w at_ ?_
    exact ⟨⟨[], by simp⟩, rfl, z⟩
theorem holds_b {s : Sh} (g : s.good) (hs : s.size ≤ 10) {L : List (List Int)} (hL1 : ∀ q, q ∈ L ↔ q ∈ pathsOf s []) (hL2 : L.length = s.size) (hL : ∀ (k : Nat) (h : Hv) (P : Val → Hv → Prop), P (.lst (L.map pv)) h → ok (lev D (k + s.size + 1) 14 [s.val, .tup []] h) P) :
    ∀ (f : Fm) {k j : Nat} {h : Hv} {l : List (Val × Val)} {S T : List Nm} {ρ : Nm → List Int} {τ : Nm → List (List Int)} {P : Val → Hv → Prop}, s.size ≤ k → EnvOk s l S T ρ τ → h[j]? = some (.dic l) → WF f S T → l.length + f.dep ≤ 1000 →
      P (.bl (ev1 s L (subs L) f ρ τ)) h → ok (lev D (k + f.dep + 4) 22 [f.val, s.val, .ref j] h) P := by
  intro f
  induction f with
  | not f ih =>
    intro k j h l S T ρ τ P hk e hj w hl z
    simp only [Fm.dep] at hl ⊢
    show ok (tidy (runDef 8 (b__law_holds (lev D (k + f.dep + 4))) [(Fm.not f).val, s.val, .ref j] h) h) P
    refine tidy_app ?_
    rw [ok_run]; unfold b__law_holds
    refine asg_ (h1 := h) (v := .str [110, 111, 116]) (by simp [dVar, Fm.val]) (hit_ rfl ?_)
    simp [dVar, Fm.val]
    refine ih hk e hj w (by omega) ?_
    simp
    exact ⟨rfl, by simpa [ev1] using z⟩
  | and f g ih1 ih2 =>
    intro k j h l S T ρ τ P hk e hj w hl z
    simp only [Fm.dep] at hl ⊢
    show ok (tidy (runDef 8 (b__law_holds (lev D (k + max f.dep g.dep + 4))) [(Fm.and f g).val, s.val, .ref j] h) h) P
    refine tidy_app ?_
    rw [ok_run]; unfold b__law_holds
    refine asg_ (h1 := h) (v := .str [97, 110, 100]) (by simp [dVar, Fm.val]) (skip_ rfl (by decide) (hit_ rfl ?_))
    simp [dVar, Fm.val]
    rw [show k + max f.dep g.dep + 4 = (k + max f.dep g.dep - f.dep) + f.dep + 4 by omega]
    refine ih1 (by omega) e hj w.1 (by omega) ?_
    cases e1 : ev1 s L (subs L) f ρ τ with
    | false => simp; exact ⟨rfl, by simpa [ev1, e1] using z⟩
    | true =>
      simp only
      rw [show (k + max f.dep g.dep - f.dep) + f.dep + 4 = (k + max f.dep g.dep - g.dep) + g.dep + 4 by omega]
      refine ih2 (by omega) e hj w.2 (by omega) ?_
      exact ⟨⟨[], by simp⟩, rfl, by simpa [ev1, e1] using z⟩
  | or f g ih1 ih2 =>
    intro k j h l S T ρ τ P hk e hj w hl z
    simp only [Fm.dep] at hl ⊢
    show ok (tidy (runDef 8 (b__law_holds (lev D (k + max f.dep g.dep + 4))) [(Fm.or f g).val, s.val, .ref j] h) h) P
    refine tidy_app ?_
    rw [ok_run]; unfold b__law_holds
    refine asg_ (h1 := h) (v := .str [111, 114]) (by simp [dVar, Fm.val]) (skip_ rfl (by decide) (skip_ rfl (by decide) (hit_ rfl ?_)))
    simp [dVar, Fm.val]
    rw [show k + max f.dep g.dep + 4 = (k + max f.dep g.dep - f.dep) + f.dep + 4 by omega]
    refine ih1 (by omega) e hj w.1 (by omega) ?_
    cases e1 : ev1 s L (subs L) f ρ τ with
    | true => simp; exact ⟨rfl, by simpa [ev1, e1] using z⟩
    | false =>
      simp only
      rw [show (k + max f.dep g.dep - f.dep) + f.dep + 4 = (k + max f.dep g.dep - g.dep) + g.dep + 4 by omega]
      refine ih2 (by omega) e hj w.2 (by omega) ?_
      exact ⟨⟨[], by simp⟩, rfl, by simpa [ev1, e1] using z⟩
  | q1 b x f ih =>
    intro k j h l S T ρ τ P hk e hj w hl z
    simp only [Fm.dep] at hl ⊢
    show ok (tidy (runDef 8 (b__law_holds (lev D (k + f.dep + 4))) [(Fm.q1 b x f).val, s.val, .ref j] h) h) P
    refine tidy_app ?_
    rw [ok_run]; unfold b__law_holds
    refine asg_ (h1 := h) (v := .str (if b then [115, 111, 109, 101] else [97, 108, 108])) (by simp [dVar, Fm.val]) (skip_ rfl (by cases b <;> decide) (skip_ rfl (by cases b <;> decide) (skip_ rfl (by cases b <;> decide) (if_ (c := true) ?_ (fun _ => ?_) (fun z => by cases z)))))
    · cases b
      · exact inB (w := [97, 108, 108]) (ws := [[115, 111, 109, 101], [97, 108, 108], [115, 111, 109, 101, 115, 101, 116], [97, 108, 108, 115, 101, 116]]) rfl (by decide) (by decide) (by decide)
      · exact inB (w := [115, 111, 109, 101]) (ws := [[115, 111, 109, 101], [97, 108, 108], [115, 111, 109, 101, 115, 101, 116], [97, 108, 108, 115, 101, 116]]) rfl (by decide) (by decide) (by decide)
    · refine sok_seq (fun l' h' => l' = [some (Fm.q1 b x f).val, some s.val, some (.ref j), some (.str (if b then [115, 111, 109, 101] else [97, 108, 108])), some (.lst (L.map pv)), none, none, none] ∧ h' = h) ?_ ?_
      · simp [dVar, mkTup_ok]
        rw [show k + f.dep + 4 = (k - s.size + f.dep + 3) + s.size + 1 by omega]
        exact hL _ _ _ ⟨rfl, rfl⟩
      rintro l' h ⟨rfl, rfl⟩
      refine if_ (c := false) (by cases b; exact inB (w := [97, 108, 108]) (ws := [[115, 111, 109, 101, 115, 101, 116], [97, 108, 108, 115, 101, 116]]) rfl (by decide) (by decide) (by decide); exact inB (w := [115, 111, 109, 101]) (ws := [[115, 111, 109, 101, 115, 101, 116], [97, 108, 108, 115, 101, 116]]) rfl (by decide) (by decide) (by decide)) (fun z => by cases z) (fun _ => ?_)
      refine asg_ (h1 := h) (v := .bl b) (by cases b; exact inV (w := [97, 108, 108]) (ws := [[115, 111, 109, 101], [115, 111, 109, 101, 115, 101, 116]]) rfl (by decide) (by decide) (by decide); exact inV (w := [115, 111, 109, 101]) (ws := [[115, 111, 109, 101], [115, 111, 109, 101, 115, 101, 116]]) rfl (by decide) (by decide) (by decide)) ?_
      exact q_loopb (V := pv) (E := fun p => ev1 s L (subs L) f (fun y => if y = x then p else ρ y) τ) hj (by omega) (fun p hp i h' P hi q => by
        refine ih hk (e.bind1 w.1 ((hL1 p).mp hp)) hi w.2 ?_ q
        have := dput_len l (.str x) (pv p)
        omega) (by simpa [ev1] using z)
  | q2 b X f ih =>
    intro k j h l S T ρ τ P hk e hj w hl z
    simp only [Fm.dep] at hl ⊢
    show ok (tidy (runDef 8 (b__law_holds (lev D (k + f.dep + 4))) [(Fm.q2 b X f).val, s.val, .ref j] h) h) P
    refine tidy_app ?_
    rw [ok_run]; unfold b__law_holds
    refine asg_ (h1 := h) (v := .str (if b then [115, 111, 109, 101, 115, 101, 116] else [97, 108, 108, 115, 101, 116])) (by simp [dVar, Fm.val]) (skip_ rfl (by cases b <;> decide) (skip_ rfl (by cases b <;> decide) (skip_ rfl (by cases b <;> decide) (if_ (c := true) ?_ (fun _ => ?_) (fun z => by cases z)))))
    · cases b
      · exact inB (w := [97, 108, 108, 115, 101, 116]) (ws := [[115, 111, 109, 101], [97, 108, 108], [115, 111, 109, 101, 115, 101, 116], [97, 108, 108, 115, 101, 116]]) rfl (by decide) (by decide) (by decide)
      · exact inB (w := [115, 111, 109, 101, 115, 101, 116]) (ws := [[115, 111, 109, 101], [97, 108, 108], [115, 111, 109, 101, 115, 101, 116], [97, 108, 108, 115, 101, 116]]) rfl (by decide) (by decide) (by decide)
    · refine sok_seq (fun l' h' => l' = [some (Fm.q2 b X f).val, some s.val, some (.ref j), some (.str (if b then [115, 111, 109, 101, 115, 101, 116] else [97, 108, 108, 115, 101, 116])), some (.lst (L.map pv)), none, none, none] ∧ h' = h) ?_ ?_
      · simp [dVar, mkTup_ok]
        rw [show k + f.dep + 4 = (k - s.size + f.dep + 3) + s.size + 1 by omega]
        exact hL _ _ _ ⟨rfl, rfl⟩
      rintro l' h ⟨rfl, rfl⟩
      refine if_ (c := true) (by cases b; exact inB (w := [97, 108, 108, 115, 101, 116]) (ws := [[115, 111, 109, 101, 115, 101, 116], [97, 108, 108, 115, 101, 116]]) rfl (by decide) (by decide) (by decide); exact inB (w := [115, 111, 109, 101, 115, 101, 116]) (ws := [[115, 111, 109, 101, 115, 101, 116], [97, 108, 108, 115, 101, 116]]) rfl (by decide) (by decide) (by decide)) (fun _ => ?_) (fun z => by cases z)
      refine sok_seq (fun l' h' => l' = [some (Fm.q2 b X f).val, some s.val, some (.ref j), some (.str (if b then [115, 111, 109, 101, 115, 101, 116] else [97, 108, 108, 115, 101, 116])), some (.lst ((subs L).map tv)), none, none, none] ∧ h' = h) ?_ ?_
      · simp [dVar]
        rw [show k + f.dep + 4 = (k + f.dep + 3) + 1 by omega]
        exact subs_b (by omega) ⟨rfl, rfl⟩
      rintro l' h ⟨rfl, rfl⟩
      simp only [e_next, sok_nx]
      refine asg_ (h1 := h) (v := .bl b) (by cases b; exact inV (w := [97, 108, 108, 115, 101, 116]) (ws := [[115, 111, 109, 101], [115, 111, 109, 101, 115, 101, 116]]) rfl (by decide) (by decide) (by decide); exact inV (w := [115, 111, 109, 101, 115, 101, 116]) (ws := [[115, 111, 109, 101], [115, 111, 109, 101, 115, 101, 116]]) rfl (by decide) (by decide) (by decide)) ?_
      exact q_loopb (V := tv) (E := fun a => ev1 s L (subs L) f ρ (fun Y => if Y = X then a else τ Y)) hj (by omega) (fun a ha i h' P hi q => by
        refine ih hk (e.bind2 w.1) hi w.2 ?_ q
        have := dput_len l (.str X) (tv a)
        omega) (by simpa [ev1] using z)
  | tru =>
    intro k j h l S T ρ τ P hk e hj w hl z
    exact hold_atomb g (by omega) e hj w rfl [116, 114, 117, 101] (by simp [Fm.val]) (by decide) (by decide) (by decide) (by decide) z
  | label a x =>
    intro k j h l S T ρ τ P hk e hj w hl z
    exact hold_atomb g (by omega) e hj w rfl [108, 97, 98, 101, 108] (by simp [Fm.val]) (by decide) (by decide) (by decide) (by decide) z
  | child i x y =>
    intro k j h l S T ρ τ P hk e hj w hl z
    exact hold_atomb g (by omega) e hj w rfl [99, 104, 105, 108, 100] (by simp [Fm.val]) (by decide) (by decide) (by decide) (by decide) z
  | top x =>
    intro k j h l S T ρ τ P hk e hj w hl z
    exact hold_atomb g (by omega) e hj w rfl [116, 111, 112] (by simp [Fm.val]) (by decide) (by decide) (by decide) (by decide) z
  | blw x y =>
    intro k j h l S T ρ τ P hk e hj w hl z
    exact hold_atomb g (by omega) e hj w rfl [98, 101, 108, 111, 119] (by simp [Fm.val]) (by decide) (by decide) (by decide) (by decide) z
  | same x y =>
    intro k j h l S T ρ τ P hk e hj w hl z
    exact hold_atomb g (by omega) e hj w rfl [115, 97, 109, 101] (by simp [Fm.val]) (by decide) (by decide) (by decide) (by decide) z
  | inn x X =>
    intro k j h l S T ρ τ P hk e hj w hl z
    exact hold_atomb g (by omega) e hj w rfl [105, 110] (by simp [Fm.val]) (by decide) (by decide) (by decide) (by decide) z
  | inside X Y =>
    intro k j h l S T ρ τ P hk e hj w hl z
    exact hold_atomb g (by omega) e hj w rfl [105, 110, 115, 105, 100, 101] (by simp [Fm.val]) (by decide) (by decide) (by decide) (by decide) z
end L06

set_option Elab.async false
set_option linter.all false
set_option maxRecDepth 100000
set_option maxHeartbeats 1000000
set_option autoImplicit false
namespace L06
open GH PySem
theorem any_iff {α : Type} {P P' : List α} {f g : α → Bool} (h1 : ∀ a ∈ P, ∃ b ∈ P', f a = g b) (h2 : ∀ b ∈ P', ∃ a ∈ P, f a = g b) : P.any f = P'.any g := by
  rw [Bool.eq_iff_iff, List.any_eq_true, List.any_eq_true]
  constructor
  · rintro ⟨a, ha, e⟩
    obtain ⟨b, hb, e2⟩ := h1 a ha
    exact ⟨b, hb, by rw [← e2]; exact e⟩
  · rintro ⟨b, hb, e⟩
    obtain ⟨a, ha, e2⟩ := h2 b hb
    exact ⟨a, ha, by rw [e2]; exact e⟩
theorem ev_eq {s : Sh} {P P' : List (List Int)} {Q Q' : List (List (List Int))} (hP : ∀ q, q ∈ P ↔ q ∈ P') (h1 : ∀ A ∈ Q, ∃ B ∈ Q', ∀ q, q ∈ A ↔ q ∈ B) (h2 : ∀ B ∈ Q', ∃ A ∈ Q, ∀ q, q ∈ A ↔ q ∈ B) :
    ∀ (f : Fm) (ρ : Nm → List Int) (τ τ' : Nm → List (List Int)), (∀ X q, q ∈ τ X ↔ q ∈ τ' X) → ev1 s P Q f ρ τ = ev1 s P' Q' f ρ τ'
  | .tru, _, _, _, _ => rfl
  | .label _ _, _, _, _, _ => rfl
  | .child _ _ _, _, _, _, _ => rfl
  | .top _, _, _, _, _ => rfl
  | .blw _ _, _, _, _, _ => rfl
  | .same _ _, _, _, _, _ => rfl
  | .inn x X, ρ, τ, τ', h => by simp only [ev1, h]
  | .inside X Y, ρ, τ, τ', h => by
    simp only [ev1]
    rw [Bool.eq_iff_iff, List.all_eq_true, List.all_eq_true]
    simp only [decide_eq_true_eq]
    constructor
    · intro a q hq; exact (h Y q).mp (a q ((h X q).mpr hq))
    · intro a q hq; exact (h Y q).mpr (a q ((h X q).mp hq))
  | .not f, ρ, τ, τ', h => by simp only [ev1, ev_eq hP h1 h2 f ρ τ τ' h]
  | .and f g, ρ, τ, τ', h => by simp only [ev1, ev_eq hP h1 h2 f ρ τ τ' h, ev_eq hP h1 h2 g ρ τ τ' h]
  | .or f g, ρ, τ, τ', h => by simp only [ev1, ev_eq hP h1 h2 f ρ τ τ' h, ev_eq hP h1 h2 g ρ τ τ' h]
  | .q1 b x f, ρ, τ, τ', h => by
    simp only [ev1]
    rw [any_iff (P' := P') (g := fun p => ev1 s P' Q' f (fun y => if y = x then p else ρ y) τ' == b) (fun a ha => ⟨a, (hP a).mp ha, by rw [ev_eq hP h1 h2 f _ τ τ' h]⟩) (fun a ha => ⟨a, (hP a).mpr ha, by rw [ev_eq hP h1 h2 f _ τ τ' h]⟩)]
  | .q2 b X f, ρ, τ, τ', h => by
    have key : ∀ A B : List (List Int), (∀ q, q ∈ A ↔ q ∈ B) → ev1 s P Q f ρ (fun Y => if Y = X then A else τ Y) = ev1 s P' Q' f ρ (fun Y => if Y = X then B else τ' Y) := fun A B hAB => ev_eq hP h1 h2 f ρ _ _ fun Y q => by
      by_cases e : Y = X
      · simp only [if_pos e]; exact hAB q
      · simp only [if_neg e]; exact h Y q
    simp only [ev1]
    rw [any_iff (P' := Q') (g := fun B => ev1 s P' Q' f ρ (fun Y => if Y = X then B else τ' Y) == b) (fun A hA => by
      obtain ⟨B, hB, e⟩ := h1 A hA
      exact ⟨B, hB, by rw [key A B e]⟩) (fun B hB => by
      obtain ⟨A, hA, e⟩ := h2 B hB
      exact ⟨A, hA, by rw [key A B e]⟩)]
theorem subs_same {L L' : List (List Int)} (h : ∀ q, q ∈ L ↔ q ∈ L') : ∀ A ∈ subs L, ∃ B ∈ subs L', ∀ q, q ∈ A ↔ q ∈ B := fun A hA =>
  ⟨L'.filter fun q => decide (q ∈ A), subs_filter L' _, fun q => by
    simp only [List.mem_filter, decide_eq_true_eq]
    exact ⟨fun hq => ⟨(h q).mp (subs_in hA q hq), hq⟩, fun hq => hq.2⟩⟩
theorem WF_mono : ∀ (f : Fm) {S T S' T' : List Nm}, (∀ x ∈ S, x ∈ S') → (∀ x ∈ T, x ∈ T') → WF f S T → WF f S' T'
  | .tru, _, _, _, _, _, _, w => trivial
  | .label _ x, _, _, _, _, h, _, w => h _ w
  | .child _ _ _, _, _, _, _, h, _, w => ⟨h _ w.1, h _ w.2⟩
  | .top _, _, _, _, _, h, _, w => h _ w
  | .blw _ _, _, _, _, _, h, _, w => ⟨h _ w.1, h _ w.2⟩
  | .same _ _, _, _, _, _, h, _, w => ⟨h _ w.1, h _ w.2⟩
  | .inn _ _, _, _, _, _, h, k, w => ⟨h _ w.1, k _ w.2⟩
  | .inside _ _, _, _, _, _, _, k, w => ⟨k _ w.1, k _ w.2⟩
  | .not f, _, _, _, _, h, k, w => WF_mono f h k w
  | .and f g, _, _, _, _, h, k, w => ⟨WF_mono f h k w.1, WF_mono g h k w.2⟩
  | .or f g, _, _, _, _, h, k, w => ⟨WF_mono f h k w.1, WF_mono g h k w.2⟩
  | .q1 _ x f, _, _, _, _, h, k, w => ⟨w.1, WF_mono f (fun y hy => by
    rcases List.mem_cons.mp hy with e | e
    · rw [e]; exact List.mem_cons_self ..
    · exact List.mem_cons_of_mem _ (h y e)) k w.2⟩
  | .q2 _ X f, _, _, _, _, h, k, w => ⟨w.1, WF_mono f h (fun y hy => by
    rcases List.mem_cons.mp hy with e | e
    · rw [e]; exact List.mem_cons_self ..
    · exact List.mem_cons_of_mem _ (k y e)) w.2⟩
/-! names -/
def NmOk (L : List Nm) : Prop := ∀ x ∈ L, isS x = true ∨ isT x = true
theorem nm_ok : ∀ {L : List Nm}, NmOk L → okVs (L.map .str) = true ∧ dpVs (L.map .str) = 0
  | [], _ => ⟨rfl, rfl⟩
  | x :: L, h => by
    obtain ⟨a, b⟩ := nm_ok fun y hy => h y (List.mem_cons_of_mem _ hy)
    have c : okV (.str x) = true := by
      rcases h x (List.mem_cons_self ..) with c | c
      · simp [isS] at c
        rcases c with (rfl | rfl) | rfl <;> decide
      · simp [isT] at c
        rcases c with rfl | rfl <;> decide
    simp only [List.map_cons, okVs, dpVs, a, b, c, dpV]
    exact ⟨rfl, rfl⟩
theorem eq_nl {L : List Nm} {h : Hv} (n : NmOk L) : vEq (.lst (L.map .str)) (.lst []) h = .ok (.bl L.isEmpty) h ∧ vNe (.lst (L.map .str)) (.lst []) h = .ok (.bl (!L.isEmpty)) h := by
  obtain ⟨a, b⟩ := nm_ok n
  have q : veq (.lst (L.map .str)) (.lst []) = L.isEmpty := by cases L <;> rfl
  constructor
  · simp only [vEq, thaw, eqOk, okV, okVs, a, Bool.and_self, Bool.true_and, dpV, dpVs, b, q]
    rfl
  · simp only [vNe, thaw, eqOk, okV, okVs, a, Bool.and_self, Bool.true_and, dpV, dpVs, b, q]
    rfl
theorem asgk_ {l : GH.Loc} {h : Hv} {P : Post} {rest : Stm} {d : Den} {i : Nat} (z : ok (d l h) fun v h1 => sok (rest (l.set i (some v)) h1) P) : sok (sSeq (sAsg d (gName i)) rest l h) P := by
  rw [e_seq, sok_then, e_asg, sok_to]
  exact z
theorem pick {k : Nat} {o : Ob} {g : Hv} {L : List Nm} {Q : Val → Hv → Prop} (ho : TapeOb o) (hL : L ≠ []) (hl : L.length ≤ 1000) (z : ∀ x ∈ L, ∀ o', TapeOb o' → Q (.str x) (o' :: g)) :
    ok (lev D (k + 1) 8 [.ref 0, .int L.length] (o :: g)) fun v h => ok (vIx (.lst (L.map .str)) v h) Q := by
  have : 0 < L.length := List.length_pos_iff.mpr hL
  refine take_l ho (by omega) (by omega) fun r o' h0 h1 ho' => ?_
  obtain ⟨v, e1, e2⟩ := nth_of (l := L.map Val.str) h0 (by simpa using h1)
  obtain ⟨x, hx, rfl⟩ := List.mem_map.mp e2
  rw [vIx_lst e1]
  exact z x hx o' ho'
theorem pickT {k : Nat} {o : Ob} {g : Hv} {L : List Nm} {Q : Val → Hv → Prop} (ho : TapeOb o) (hL : L ≠ []) (hl : L.length ≤ 1000) (z : ∀ x ∈ L, ∀ o', TapeOb o' → Q (.str x) (o' :: g)) :
    ok (lev D (k + 1) 8 [.ref 0, .int L.length] (o :: g)) fun v h => ok (vIx (.tup (L.map .str)) v h) Q := by
  have : 0 < L.length := List.length_pos_iff.mpr hL
  refine take_l ho (by omega) (by omega) fun r o' h0 h1 ho' => ?_
  obtain ⟨v, e1, e2⟩ := nth_of (l := L.map Val.str) h0 (by simpa using h1)
  obtain ⟨x, hx, rfl⟩ := List.mem_map.mp e2
  rw [vIx_tup e1]
  exact z x hx o' ho'
theorem asgq_ {l : GH.Loc} {h : Hv} {P : Post} {rest : Stm} {d : Den} {i : Nat} (Q : Val → Hv → Prop) (a : ok (d l h) Q) (z : ∀ v h1, Q v h1 → sok (rest (l.set i (some v)) h1) P) : sok (sSeq (sAsg d (gName i)) rest l h) P :=
  asgk_ (ok_imp a z)
abbrev tq (m : Int) (g : Hv) : Val → Hv → Prop := fun v h => ∃ r o', 0 ≤ r ∧ r < m ∧ TapeOb o' ∧ v = .int r ∧ h = o' :: g
abbrev pq (L : List Nm) (g : Hv) : Val → Hv → Prop := fun v h => ∃ x o', x ∈ L ∧ TapeOb o' ∧ v = .str x ∧ h = o' :: g
theorem take_q {k : Nat} {m : Int} {o : Ob} {g : Hv} (ho : TapeOb o) (hm : 0 < m) (hm2 : m < 1073741824) : ok (lev D (k + 1) 8 [.ref 0, .int m] (o :: g)) (tq m g) :=
  take_l ho hm hm2 fun r o' h0 h1 ho' => ⟨r, o', h0, h1, ho', rfl, rfl⟩
theorem gen_atom {k : Nat} {o : Ob} {g : Hv} {n : Int} {ls : List Nm} {S T : List Nm} {P : Val → Hv → Prop} (ho : TapeOb o) (hn : n = 1 ∨ n = 2) (hl : ls ≠ []) (hl3 : ls.length ≤ 3) (hS : NmOk S) (hT : NmOk T) (hSl : S.length ≤ 1000) (hTl : T.length ≤ 1000)
    (z : ∀ (f : Fm) o', WF f S T → f.dep = 0 → TapeOb o' → P f.val (o' :: g)) : ok (lev D (k + 2) 16 [.ref 0, .tup [.int n, .tup (ls.map .str)], .lst (S.map .str), .lst (T.map .str)] (o :: g)) P := by
  show ok (runDef 7 (b__law_atom (lev D (k + 1))) [.ref 0, .tup [.int n, .tup (ls.map .str)], .lst (S.map .str), .lst (T.map .str)] (o :: g)) P
  rw [ok_run]; unfold b__law_atom
  refine asgq_ (tq 12 g) (by simp only [e_call, e_cons, dVar, e_c, e_nil, List.getElem?_cons_zero, List.map_cons, List.cons_append, Res.bind_ok]; exact take_q ho (by omega) (by omega)) ?_
  rintro v h ⟨r, o1, h0, h1, ho1, rfl, rfl⟩
  simp only [List.map_cons, List.map_nil, List.length_cons, List.length_nil, List.cons_append, List.nil_append, List.replicate, List.set_cons_succ, List.set_cons_zero]
  by_cases c1 : T.isEmpty = false ∧ (r < 4 ∨ S.isEmpty = true)
  · have hTn : T ≠ [] := by rintro rfl; cases c1.1
    refine if_ (c := true) ?_ (fun _ => ?_) (fun z => by cases z)
    · have e1 := (eq_nl (h := o1 :: g) hT).2
      have e2 := (eq_nl (h := o1 :: g) hS).1
      by_cases c2 : r < 4
      · simp [dVar, mkLst_ok, e1, c1.1, c2]
      · have c3 := c1.2.resolve_left c2
        simp [dVar, mkLst_ok, e1, e2, c1.1, c2, c3]
    by_cases c2 : S.isEmpty = true ∨ r = 0
    · refine if_ (c := true) ?_ (fun _ => ret_ ?_) (fun z => by cases z)
      · have e2 := (eq_nl (h := o1 :: g) hS).1
        by_cases c3 : S.isEmpty = true
        · simp [dVar, mkLst_ok, e2, c3]
        · have c4 := c2.resolve_left c3
          simp [dVar, mkLst_ok, e2, c3, c4]
      simp [dVar]
      refine pick ho1 hTn hTl fun X hX o2 ho2 => ?_
      refine pick ho2 hTn hTl fun Y hY o3 ho3 => ?_
      rw [mkTup_ok (by simp)]
      exact z (.inside X Y) o3 ⟨hX, hY⟩ rfl ho3
    · have c3 : S.isEmpty = false := by cases h : S.isEmpty with
        | true => exact absurd (.inl h) c2
        | false => rfl
      have hSn : S ≠ [] := by rintro rfl; cases c3
      refine if_ (c := false) ?_ (fun z => by cases z) (fun _ => ret_ ?_)
      · have e2 := (eq_nl (h := o1 :: g) hS).1
        have c4 : ¬ r = 0 := fun h => c2 (.inr h)
        simp [dVar, mkLst_ok, e2, c3, c4]
      simp [dVar]
      refine pick ho1 hSn hSl fun X hX o2 ho2 => ?_
      refine pick ho2 hTn hTl fun Y hY o3 ho3 => ?_
      rw [mkTup_ok (by simp)]
      exact z (.inn X Y) o3 ⟨hX, hY⟩ rfl ho3
  · refine if_ (c := false) ?_ (fun z => by cases z) (fun _ => ?_)
    · have e1 := (eq_nl (h := o1 :: g) hT).2
      have e2 := (eq_nl (h := o1 :: g) hS).1
      cases c2 : T.isEmpty with
      | true => simp [dVar, mkLst_ok, e1, c2]
      | false =>
        have c3 : ¬ r < 4 := fun h => c1 ⟨c2, .inl h⟩
        have c4 : S.isEmpty = false := by cases h : S.isEmpty with
          | true => exact absurd ⟨c2, .inr h⟩ c1
          | false => rfl
        simp [dVar, mkLst_ok, e1, e2, c2, c3, c4]
    by_cases c2 : S.isEmpty = true
    · refine if_ (c := true) ?_ (fun _ => ret_ ?_) (fun z => by cases z)
      · simp [dVar, mkLst_ok, (eq_nl (h := o1 :: g) hS).1, c2]
      simp [dVar, mkTup_ok]
      exact z .tru o1 trivial rfl ho1
    have c3 : S.isEmpty = false := by simpa using c2
    have hSn : S ≠ [] := by rintro rfl; cases c3
    refine if_ (c := false) ?_ (fun z => by cases z) (fun _ => ?_)
    · simp [dVar, mkLst_ok, (eq_nl (h := o1 :: g) hS).1, c3]
    refine asgq_ (pq S g) (by simp [dVar]; exact pick ho1 hSn hSl fun x hx o2 ho2 => ⟨x, o2, hx, ho2, rfl, rfl⟩) ?_
    rintro v h ⟨x, o2, hx, ho2, rfl, rfl⟩
    refine asgq_ (pq S g) (by simp [dVar]; exact pick ho2 hSn hSl fun x hx o2 ho2 => ⟨x, o2, hx, ho2, rfl, rfl⟩) ?_
    rintro v h ⟨y, o3, hy, ho3, rfl, rfl⟩
    simp only [List.set_cons_succ, List.set_cons_zero]
    by_cases c4 : r < 7
    · refine if_ (c := true) (by simp [dVar, c4]) (fun _ => ret_ ?_) (fun z => by cases z)
      simp [dVar]
      refine pickT ho3 hl (by omega) fun a ha o4 ho4 => ?_
      simp [mkTup_ok]
      exact z (.label a x) o4 hx rfl ho4
    refine if_ (c := false) (by simp [dVar, c4]) (fun z => by cases z) (fun _ => ?_)
    by_cases c5 : r = 7
    · refine if_ (c := true) (by simp [dVar, c5]) (fun _ => ret_ ?_) (fun z => by cases z)
      simp [dVar, mkTup_ok]
      exact z (.top x) o3 hx rfl ho3
    refine if_ (c := false) (by simp [dVar, c5]) (fun z => by cases z) (fun _ => ?_)
    by_cases c6 : r = 8
    · refine if_ (c := true) (by simp [dVar, c6]) (fun _ => ret_ ?_) (fun z => by cases z)
      simp [dVar, mkTup_ok]
      exact z (.same x y) o3 ⟨hx, hy⟩ rfl ho3
    refine if_ (c := false) (by simp [dVar, c6]) (fun z => by cases z) (fun _ => ret_ ?_)
    by_cases c7 : r < 11
    · simp [dVar, c7]
      refine take_l ho3 (by omega) (by omega) fun i o4 _ _ ho4 => ?_
      simp [mkTup_ok]
      exact z (.child i x y) o4 ⟨hx, hy⟩ rfl ho4
    · simp [dVar, c7, mkTup_ok]
      exact z (.blw x y) o3 ⟨hx, hy⟩ rfl ho3
end L06

set_option Elab.async false
set_option linter.all false
set_option maxRecDepth 100000
set_option maxHeartbeats 1000000
set_option autoImplicit false
namespace L06
open GH PySem
def AllS (S : List Nm) : Prop := ∀ x ∈ S, isS x = true
def AllT (S : List Nm) : Prop := ∀ x ∈ S, isT x = true
theorem nms {S : List Nm} (h : AllS S) : NmOk S := fun x hx => .inl (h x hx)
theorem nmt {S : List Nm} (h : AllT S) : NmOk S := fun x hx => .inr (h x hx)
theorem gen_matrix : ∀ (d : Nat) {k : Nat} {o : Ob} {g : Hv} {n : Int} {ls : List Nm} {S T : List Nm} {P : Val → Hv → Prop}, TapeOb o → (n = 1 ∨ n = 2) → ls ≠ [] → ls.length ≤ 3 → AllS S → AllT T → S.length + d ≤ 900 → T.length ≤ 900 →
    (∀ (f : Fm) o', WF f S T → f.dep ≤ d → TapeOb o' → P f.val (o' :: g)) → ok (lev D (k + d + 3) 17 [.ref 0, .tup [.int n, .tup (ls.map .str)], .lst (S.map .str), .lst (T.map .str), .int d] (o :: g)) P := by
  intro d
  induction d with
  | zero =>
    intro k o g n ls S T P ho hn hl hl3 hS hT hSl hTl z
    show ok (runDef 9 (b__law_matrix (lev D (k + 0 + 2))) [.ref 0, .tup [.int n, .tup (ls.map .str)], .lst (S.map .str), .lst (T.map .str), .int 0] (o :: g)) P
    rw [ok_run]; unfold b__law_matrix
    refine asgq_ (fun v h => v = .int 0 ∧ h = o :: g) (by simp [dVar]) ?_
    rintro v h ⟨rfl, rfl⟩
    refine if_ (c := true) (by simp [dVar]) (fun _ => ret_ ?_) (fun z => by cases z)
    simp [dVar]
    exact gen_atom ho hn hl hl3 (nms hS) (nmt hT) (by omega) (by omega) fun f o' w e ho' => z f o' w (by omega) ho'
  | succ d ih =>
    intro k o g n ls S T P ho hn hl hl3 hS hT hSl hTl z
    have ed : ((d + 1 : Nat) : Int) - 1 = (d : Nat) := by omega
    show ok (runDef 9 (b__law_matrix (lev D (k + d + 3))) [.ref 0, .tup [.int n, .tup (ls.map .str)], .lst (S.map .str), .lst (T.map .str), .int (d + 1 : Nat)] (o :: g)) P
    rw [ok_run]; unfold b__law_matrix
    refine asgq_ (tq 8 g) ?_ ?_
    · simp only [e_dif, e_b, e_bin, dVar, List.getElem?_cons_succ, List.getElem?_cons_zero, List.map_cons, List.map_nil, List.cons_append, Res.bind_ok, e_c, vGt_int, resB_bl]
      rw [show decide ((0 : Int) < ((d + 1 : Nat) : Int)) = true from decide_eq_true (by omega)]
      simp only [if_true, e_call, e_cons, dVar, List.getElem?_cons_zero, Res.bind_ok, e_c, e_nil]
      exact take_q ho (by omega) (by omega)
    rintro v h ⟨r, o1, h0, h1, ho1, rfl, rfl⟩
    simp only [List.map_cons, List.map_nil, List.length_cons, List.length_nil, List.cons_append, List.nil_append, List.replicate, List.set_cons_succ, List.set_cons_zero]
    by_cases c1 : r < 3
    · refine if_ (c := true) (by simp [dVar, c1]) (fun _ => ret_ ?_) (fun z => by cases z)
      simp [dVar]
      exact gen_atom ho1 hn hl hl3 (nms hS) (nmt hT) (by omega) (by omega) fun f o' w e ho' => z f o' w (by omega) ho'
    refine if_ (c := false) (by simp [dVar, c1]) (fun z => by cases z) (fun _ => ?_)
    by_cases c2 : r = 3
    · refine if_ (c := true) (by simp [dVar, c2]) (fun _ => ret_ ?_) (fun z => by cases z)
      simp [dVar, ed]
      refine ih ho1 hn hl hl3 hS hT (by omega) hTl fun f o2 w e ho2 => ?_
      rw [mkTup_ok (by simp)]
      exact z (.not f) o2 w (by simp [Fm.dep]; omega) ho2
    refine if_ (c := false) (by simp [dVar, c2]) (fun z => by cases z) (fun _ => ?_)
    by_cases c3 : r < 7
    · refine if_ (c := true) (by simp [dVar, c3]) (fun _ => ?_) (fun z => by cases z)
      refine asgq_ (fun v h => ∃ (b : Bool) (o' : Ob), TapeOb o' ∧ v = .str (if b then [97, 110, 100] else [111, 114]) ∧ h = o' :: g) ?_ ?_
      · simp [dVar, mkLst_ok]
        refine take_l ho1 (by omega) (by omega) fun q o2 q0 q1 ho2 => ?_
        obtain rfl | rfl : q = 0 ∨ q = 1 := by omega
        · rw [vIx_lst (v := .str [97, 110, 100]) rfl]; exact .inr ⟨o2, ho2, rfl, rfl⟩
        · rw [vIx_lst (v := .str [111, 114]) rfl]; exact .inl ⟨o2, ho2, rfl, rfl⟩
      rintro v h ⟨b, o2, ho2, rfl, rfl⟩
      refine asgq_ (fun v h => ∃ (f : Fm) (o' : Ob), WF f S T ∧ f.dep ≤ d ∧ TapeOb o' ∧ v = f.val ∧ h = o' :: g) ?_ ?_
      · simp [dVar, ed]
        exact ih ho2 hn hl hl3 hS hT (by omega) hTl fun f o3 w e ho3 => ⟨f, w, e, o3, ho3, rfl, rfl⟩
      rintro v h ⟨f1, o3, w1, e1, ho3, rfl, rfl⟩
      refine ret_ ?_
      simp [dVar, ed]
      refine ih ho3 hn hl hl3 hS hT (by omega) hTl fun f2 o4 w2 e2 ho4 => ?_
      rw [mkTup_ok (by simp)]
      cases b with
      | true => exact z (.and f1 f2) o4 ⟨w1, w2⟩ (by simp [Fm.dep]; omega) ho4
      | false => exact z (.or f1 f2) o4 ⟨w1, w2⟩ (by simp [Fm.dep]; omega) ho4
    refine if_ (c := false) (by simp [dVar, c3]) (fun z => by cases z) (fun _ => ?_)
    refine asgq_ (fun v h => ∃ (b : Bool) (o' : Ob), TapeOb o' ∧ v = .str (if b then [115, 111, 109, 101] else [97, 108, 108]) ∧ h = o' :: g) ?_ ?_
    · simp [dVar, mkLst_ok]
      refine take_l ho1 (by omega) (by omega) fun q o2 q0 q1 ho2 => ?_
      obtain rfl | rfl : q = 0 ∨ q = 1 := by omega
      · rw [vIx_lst (v := .str [115, 111, 109, 101]) rfl]; exact .inr ⟨o2, ho2, rfl, rfl⟩
      · rw [vIx_lst (v := .str [97, 108, 108]) rfl]; exact .inl ⟨o2, ho2, rfl, rfl⟩
    rintro v h ⟨b, o2, ho2, rfl, rfl⟩
    refine asgq_ (fun v h => ∃ x o', isS x = true ∧ TapeOb o' ∧ v = .str x ∧ h = o' :: g) ?_ ?_
    · simp [dVar, mkLst_ok]
      refine take_l ho2 (by omega) (by omega) fun q o3 q0 q1 ho3 => ?_
      obtain rfl | rfl | rfl : q = 0 ∨ q = 1 ∨ q = 2 := by omega
      · rw [vIx_lst (v := .str [120]) rfl]; exact ⟨[120], by decide, o3, ho3, rfl, rfl⟩
      · rw [vIx_lst (v := .str [121]) rfl]; exact ⟨[121], by decide, o3, ho3, rfl, rfl⟩
      · rw [vIx_lst (v := .str [122]) rfl]; exact ⟨[122], by decide, o3, ho3, rfl, rfl⟩
    rintro v h ⟨x, o3, hx, ho3, rfl, rfl⟩
    refine ret_ ?_
    simp [dVar, ed, mkLst_ok]
    rw [add_lst (by simp; omega)]
    simp [dVar, ed]
    rw [show S.map Val.str ++ [.str x] = (S ++ [x]).map .str by simp]
    refine ih ho3 hn hl hl3 (fun y hy => ?_) hT (by simp; omega) hTl fun f o4 w e ho4 => ?_
    · rcases List.mem_append.mp hy with hy | hy
      · exact hS y hy
      · rw [List.mem_singleton.mp hy]; exact hx
    · rw [mkTup_ok (by simp)]
      refine z (.q1 b x f) o4 ⟨hx, WF_mono f (fun y hy => ?_) (fun y hy => hy) w⟩ (by simp [Fm.dep]; omega) ho4
      rcases List.mem_append.mp hy with hy | hy
      · exact List.mem_cons_of_mem _ hy
      · rw [List.mem_singleton.mp hy]; exact List.mem_cons_self ..
def cq1 (x : Nm) (f' : Fm) (g : Hv) : Val → Hv → Prop := fun v h => ∃ (b : Bool) (o' : Ob), TapeOb o' ∧ v = (Fm.q1 b x f').val ∧ h = o' :: g
def cq2 (x : Nm) (f' : Fm) (g : Hv) : Val → Hv → Prop := fun v h => ∃ (b : Bool) (o' : Ob), TapeOb o' ∧ v = (Fm.q2 b x f').val ∧ h = o' :: g
theorem gen_closed {k : Nat} {o : Ob} {g : Hv} {f : Fm} {S T : List Nm} {P : Val → Hv → Prop} (ho : TapeOb o) (hS : AllS S) (hT : AllT T) (w : WF f S T)
    (z : ∀ (f' : Fm) o', WF f' [] [] → f'.dep ≤ f.dep + S.length + T.length → TapeOb o' → P f'.val (o' :: g)) : ok (lev D (k + 2) 18 [.ref 0, f.val, .lst (S.map .str), .lst (T.map .str)] (o :: g)) P := by
  show ok (runDef 5 (b__law_closed (lev D (k + 1))) [.ref 0, f.val, .lst (S.map .str), .lst (T.map .str)] (o :: g)) P
  rw [ok_run]; unfold b__law_closed
  refine sok_seq (fun l h => ∃ (f' : Fm) (o' : Ob) (y : Option Val), WF f' [] T ∧ f'.dep ≤ f.dep + S.length ∧ TapeOb o' ∧ l = [some (.ref 0), some f'.val, some (.lst (S.map .str)), some (.lst (T.map .str)), y] ∧ h = o' :: g) ?_ ?_
  · simp only [e_for, e_iseq, dVar, List.map_cons, List.map_nil, List.cons_append, List.getElem?_cons_succ, List.getElem?_cons_zero, Res.bind_ok, vIter_lst, Res.to_ok]
    refine forL_inv (fun items l h => ∃ (rest : List Nm) (f' : Fm) (o' : Ob) (y : Option Val), items = rest.map .str ∧ (∀ x ∈ rest, x ∈ S) ∧ WF f' rest T ∧ f'.dep + rest.length ≤ f.dep + S.length ∧ TapeOb o' ∧ l = [some (.ref 0), some f'.val, some (.lst (S.map .str)), some (.lst (T.map .str)), y] ∧ h = o' :: g) ?_ ?_ _ _ _ ⟨S, f, o, none, rfl, fun x hx => hx, w, by omega, ho, rfl, rfl⟩
    · rintro v items l h ⟨rest, f', o', y, e, hr, w', hd, ho', rfl, rfl⟩
      cases rest with
      | nil => cases e
      | cons x rest =>
        simp only [List.map_cons, List.cons.injEq] at e
        obtain ⟨rfl, rfl⟩ := e
        refine ⟨trivial, ?_⟩
        simp only [e_name, tok_ok, List.set_cons_succ, List.set_cons_zero]
        refine asgq_ (cq1 x f' g) ?_ ?_
        · simp [dVar, mkLst_ok]
          refine take_l ho' (by omega) (by omega) fun q o2 q0 q1 ho2 => ?_
          obtain rfl | rfl : q = 0 ∨ q = 1 := by omega
          · rw [vIx_lst (v := .str [115, 111, 109, 101]) rfl]; simp [mkTup_ok]; exact ⟨true, o2, ho2, rfl, rfl⟩
          · rw [vIx_lst (v := .str [97, 108, 108]) rfl]; simp [mkTup_ok]; exact ⟨false, o2, ho2, rfl, rfl⟩
        rintro v h ⟨b, o2, ho2, rfl, rfl⟩
        simp only [List.set_cons_succ, List.set_cons_zero, e_next, sok_nx]
        simp only [List.length_cons] at hd
        exact ⟨rest, .q1 b x f', o2, _, rfl, fun y hy => hr y (List.mem_cons_of_mem _ hy), ⟨hS x (hr x (List.mem_cons_self ..)), w'⟩, by simp [Fm.dep]; omega, ho2, rfl, rfl⟩
    · rintro l h ⟨rest, f', o', y, e, hr, w', hd, ho', rfl, rfl⟩
      cases rest with
      | cons => cases e
      | nil => exact ⟨trivial, f', o', y, w', by simpa using hd, ho', rfl, rfl⟩
  rintro l h ⟨f1, o1, y, w1, d1, ho1, rfl, rfl⟩
  refine sok_seq (fun l h => ∃ (f' : Fm) (o' : Ob) (y : Option Val), WF f' [] [] ∧ f'.dep ≤ f.dep + S.length + T.length ∧ TapeOb o' ∧ l = [some (.ref 0), some f'.val, some (.lst (S.map .str)), some (.lst (T.map .str)), y] ∧ h = o' :: g) ?_ ?_
  · simp only [e_for, e_iseq, dVar, List.getElem?_cons_succ, List.getElem?_cons_zero, Res.bind_ok, vIter_lst, Res.to_ok]
    refine forL_inv (fun items l h => ∃ (rest : List Nm) (f' : Fm) (o' : Ob) (y : Option Val), items = rest.map .str ∧ (∀ x ∈ rest, x ∈ T) ∧ WF f' [] rest ∧ f'.dep + rest.length ≤ f.dep + S.length + T.length ∧ TapeOb o' ∧ l = [some (.ref 0), some f'.val, some (.lst (S.map .str)), some (.lst (T.map .str)), y] ∧ h = o' :: g) ?_ ?_ _ _ _ ⟨T, f1, o1, y, rfl, fun x hx => hx, w1, by omega, ho1, rfl, rfl⟩
    · rintro v items l h ⟨rest, f', o', y, e, hr, w', hd, ho', rfl, rfl⟩
      cases rest with
      | nil => cases e
      | cons x rest =>
        simp only [List.map_cons, List.cons.injEq] at e
        obtain ⟨rfl, rfl⟩ := e
        refine ⟨trivial, ?_⟩
        simp only [e_name, tok_ok, List.set_cons_succ, List.set_cons_zero]
        refine asgq_ (cq2 x f' g) ?_ ?_
        · simp [dVar, mkLst_ok]
          refine take_l ho' (by omega) (by omega) fun q o2 q0 q1 ho2 => ?_
          obtain rfl | rfl : q = 0 ∨ q = 1 := by omega
          · rw [vIx_lst (v := .str [115, 111, 109, 101, 115, 101, 116]) rfl]; simp [mkTup_ok]; exact ⟨true, o2, ho2, rfl, rfl⟩
          · rw [vIx_lst (v := .str [97, 108, 108, 115, 101, 116]) rfl]; simp [mkTup_ok]; exact ⟨false, o2, ho2, rfl, rfl⟩
        rintro v h ⟨b, o2, ho2, rfl, rfl⟩
        simp only [List.set_cons_succ, List.set_cons_zero, e_next, sok_nx]
        simp only [List.length_cons] at hd
        exact ⟨rest, .q2 b x f', o2, _, rfl, fun y hy => hr y (List.mem_cons_of_mem _ hy), ⟨hT x (hr x (List.mem_cons_self ..)), w'⟩, by simp [Fm.dep]; omega, ho2, rfl, rfl⟩
    · rintro l h ⟨rest, f', o', y, e, hr, w', hd, ho', rfl, rfl⟩
      cases rest with
      | cons => cases e
      | nil => exact ⟨trivial, f', o', y, w', by simpa using hd, ho', rfl, rfl⟩
  rintro l h ⟨f2, o2, y, w2, d2, ho2, rfl, rfl⟩
  refine ret_ ?_
  simp [dVar]
  exact z f2 o2 w2 d2 ho2
theorem gen_sentence {k : Nat} {o : Ob} {g : Hv} {n : Int} {ls : List Nm} {P : Val → Hv → Prop} (ho : TapeOb o) (hn : n = 1 ∨ n = 2) (hl : ls ≠ []) (hl3 : ls.length ≤ 3)
    (z : ∀ (f : Fm) o', WF f [] [] → f.dep ≤ 5 → TapeOb o' → P f.val (o' :: g)) : ok (lev D (k + 6) 19 [.ref 0, .tup [.int n, .tup (ls.map .str)], .int 2] (o :: g)) P := by
  show ok (runDef 5 (b__law_sentence (lev D (k + 5))) [.ref 0, .tup [.int n, .tup (ls.map .str)], .int 2] (o :: g)) P
  rw [ok_run]; unfold b__law_sentence
  refine asgq_ (fun v h => ∃ (S : List Nm) (o' : Ob), AllS S ∧ S.length ≤ 2 ∧ TapeOb o' ∧ v = .lst (S.map .str) ∧ h = o' :: g) ?_ ?_
  · simp [dVar, mkLst_ok]
    refine take_l ho (by omega) (by omega) fun q o2 q0 q1 ho2 => ?_
    obtain rfl | rfl : q = 0 ∨ q = 1 := by omega
    · simp
      exact ⟨[[120]], by simp [AllS, isS], by simp, o2, ho2, rfl, rfl⟩
    · simp
      exact ⟨[[120], [121]], by simp [AllS, isS], by simp, o2, ho2, rfl, rfl⟩
  rintro v h ⟨S, o1, hS, hSl, ho1, rfl, rfl⟩
  refine asgq_ (fun v h => ∃ (T : List Nm) (o' : Ob), AllT T ∧ T.length ≤ 1 ∧ TapeOb o' ∧ v = .lst (T.map .str) ∧ h = o' :: g) ?_ ?_
  · simp [dVar, mkLst_ok]
    refine take_l ho1 (by omega) (by omega) fun q o2 q0 q1 ho2 => ?_
    rw [vDiv_ok _ (by omega) (by omega)]
    obtain rfl | rfl | rfl : q = 0 ∨ q = 1 ∨ q = 2 := by omega
    · exact ⟨[], by simp [AllT], by simp, o2, ho2, rfl, rfl⟩
    · exact ⟨[], by simp [AllT], by simp, o2, ho2, rfl, rfl⟩
    · exact ⟨[[88]], by simp [AllT, isT], by simp, o2, ho2, rfl, rfl⟩
  rintro v h ⟨T, o2, hT, hTl, ho2, rfl, rfl⟩
  refine ret_ ?_
  simp [dVar]
  refine gen_matrix 2 (k := k) ho2 hn hl hl3 hS hT (by omega) (by omega) fun f o3 w e ho3 => ?_
  exact gen_closed ho3 hS hT w fun f' o4 w4 e4 ho4 => z f' o4 w4 (by omega) ho4
end L06

set_option Elab.async false
set_option linter.all false
set_option maxRecDepth 100000
set_option maxHeartbeats 1000000
set_option autoImplicit false
namespace L06
open GH PySem
theorem lv {K K' j : Nat} {a : List Val} {h : Hv} {P : Val → Hv → Prop} (e : K = K') (z : ok (lev D K' j a h) P) : ok (lev D K j a h) P := by subst e; exact z
@[simp] theorem e_isi (t : Ty) (d : Den) (l : GH.Loc) (h : Hv) : dIsi t d l h = (d l h).bind fun v h1 => match tyOf h1 v with
  | some a => .ok (.bl (isiB a t)) h1
  | none => .fail := nrfl rfl
theorem same_b {k : Nat} {a b : Bool} {h : Hv} {P : Val → Hv → Prop} (z : P (.bl (decide (a = b))) h) : ok (lev D (k + 1) 11 [.bl a, .bl b] h) P := by
  show ok (runDef 3 (b__law_same (lev D k)) [.bl a, .bl b] h) P
  rw [ok_run]; unfold b__law_same
  refine if_ (c := false) rfl (fun z => by cases z) (fun _ => ?_)
  refine if_ (c := true) rfl (fun _ => ret_ ?_) (fun z => by cases z)
  simp [dVar, tyOf, isiB]
  simpa using z
theorem ne_pl {L : List (List Int)} {h : Hv} : vNe (.lst (L.map pv)) (.lst []) h = .ok (.bl (!L.isEmpty)) h := by
  have a := okVs_pvs L
  have b := dpVs_pvs L
  have q : veq (.lst (L.map pv)) (.lst []) = L.isEmpty := by cases L <;> rfl
  simp only [vNe, thaw, eqOk, okV, okVs, a, Bool.and_self, Bool.true_and, dpV, dpVs, q]
  rw [if_pos (by simp)]
def fullF : Fm := .q2 true [88] (.q1 false [120] (.inn [120] [88]))
theorem full_true {s : Sh} {L : List (List Int)} (ρ : Nm → List Int) (τ : Nm → List (List Int)) : ev1 s L (subs L) fullF ρ τ = true := by
  have hm : L ∈ subs L := by
    have := subs_filter L (fun _ => true)
    have e : L.filter (fun _ => true) = L := List.filter_eq_self.mpr fun _ _ => rfl
    rwa [e] at this
  simp only [fullF, ev1]
  rw [if_pos]
  refine List.any_eq_true.mpr ⟨L, hm, ?_⟩
  simp only [if_true]
  have : (L.any fun p => decide (p ∈ L) == false) = false := by
    rw [List.any_eq_false]
    intro p hp
    simp [hp]
  rw [this]
  rfl
theorem env0 (s : Sh) : EnvOk s [] [] [] (fun _ => []) (fun _ => []) := ⟨(fun x hx => nomatch hx), (fun x hx => nomatch hx)⟩
structure St (s : Sh) (S T : List Nm) (l : List (Val × Val)) : Prop where
  env : ∃ ρ τ, EnvOk s l S T ρ τ
  len : l.length ≤ S.length + T.length
def q1s (s : Sh) (g : Hv) : Val → Hv → Prop := fun v h => ∃ o, TapeOb o ∧ v = s.val ∧ h = o :: g
theorem sok_seqo {a b : Stm} {l : GH.Loc} {h : Hv} {P : Post} (R : GH.Loc → Hv → Prop) (h1 : ∀ R' : GH.Loc → Hv → Prop, (∀ l h, R l h → R' l h) → sok (a l h) { P with nx := R' }) (h2 : ∀ l h, R l h → sok (b l h) P) : sok (sSeq a b l h) P := sok_seq R (h1 R fun _ _ z => z) h2
theorem asgo_ {l : GH.Loc} {h : Hv} {P : Post} {rest : Stm} {d : Den} {i : Nat} (Q : Val → Hv → Prop) (a : ∀ Q' : Val → Hv → Prop, (∀ v h, Q v h → Q' v h) → ok (d l h) Q') (z : ∀ v h1, Q v h1 → sok (rest (l.set i (some v)) h1) P) : sok (sSeq (sAsg d (gName i)) rest l h) P := asgq_ Q (a Q fun _ _ z => z) z
theorem forL_invo {t : Tg} {b : Stm} {s : Src} {P : Post} (I : List Val → GH.Loc → Hv → Prop)
    (step : ∀ I' : List Val → GH.Loc → Hv → Prop, (∀ x l h, I x l h → I' x l h) → ∀ x r l h, I (x :: r) l h → srcOk s h ∧ tok (t x l h) fun l1 h1 => sok (b l1 h1) { nx := fun l2 h2 => I' r l2 h2, ct := fun l2 h2 => I' r l2 h2, bk := P.nx, rt := P.rt })
    (done : ∀ l h, I [] l h → srcOk s h ∧ P.nx l h) (items : List Val) (l : GH.Loc) (h : Hv) (i : I items l h) : sok (forL t b s items l h) P := forL_inv I (step I fun _ _ _ z => z) done items l h i
theorem lcL_invo {t : Tg} {c : DenG Bool} {e : Den} {s : Src} {P : List Val → Hv → Prop} (I : List Val → List Val → Hv → Prop) {l : GH.Loc}
    (step : ∀ I' : List Val → List Val → Hv → Prop, (∀ x l h, I x l h → I' x l h) → ∀ x r acc h, I (x :: r) acc h → srcOk s h ∧ tok (t x l h) fun l1 h1 => ok (c l1 h1) fun b h2 => if b then ok (e l1 h2) fun v h3 => I' r (acc ++ [v]) h3 else I' r acc h2)
    (done : ∀ acc h, I [] acc h → srcOk s h ∧ P acc h) (items acc : List Val) (h : Hv) (i : I items acc h) : ok (lcL t c e s items acc l h) P := lcL_inv I (step I fun _ _ _ z => z) done items acc h i
def hide (Q : Val → Hv → Prop) : Val → Hv → Prop := Q
def hideL (Q : GH.Loc → Hv → Prop) : GH.Loc → Hv → Prop := Q
def hideI (Q : List Val → GH.Loc → Hv → Prop) : List Val → GH.Loc → Hv → Prop := Q
def hideA (Q : List Val → List Val → Hv → Prop) : List Val → List Val → Hv → Prop := Q
theorem law_true (ns : List Int) (h0 : ns.length ≤ 63) : ∃ h', lev D 40 23 [.fz (ns.map .int)] [] = .ok (.bl true) h' := by
  suffices ok (lev D 40 23 [.fz (ns.map .int)] []) fun v _ => v = .bl true by
    obtain ⟨v, h', e, rfl⟩ := ok_eq this
    exact ⟨h', e⟩
  show ok (runDef 11 (b_law (lev D 39)) [.fz (ns.map .int)] []) fun v _ => v = .bl true
  rw [ok_run]; unfold b_law
  refine asgo_ (fun v h => ∃ o, TapeOb o ∧ v = .ref 0 ∧ h = [o]) ?_ ?_
  · intro R' hR
    simp [dVar]
    exact tape_sp fun o ho => hR _ _ ⟨o, ho, rfl, rfl⟩
  rintro v h ⟨o, ho, rfl, rfl⟩
  refine asgq_ (hide fun v h => ∃ (n : Int) (ls : List Nm) (o : Ob), (n = 1 ∨ n = 2) ∧ ls ≠ [] ∧ ls.length ≤ 3 ∧ (∀ l ∈ ls, okV (.str l) = true) ∧ TapeOb o ∧ v = .tup [.int n, .tup (ls.map .str)] ∧ h = [o]) ?_ ?_
  · simp only [e_call, e_cons, dVar, e_nil, List.map_cons, List.map_nil, List.length_cons, List.length_nil, List.cons_append, List.nil_append, List.replicate, List.set_cons_succ, List.set_cons_zero, List.getElem?_cons_succ, List.getElem?_cons_zero, Res.bind_ok]
    exact kind_sp (k := 37) ho fun n ls o' a b c d e => ⟨n, ls, o', a, b, c, d, e, rfl, rfl⟩
  rintro v h ⟨n, ls, o1, hn, hl, hl3, hlo, ho1, rfl, rfl⟩
  simp only [List.map_cons, List.map_nil, List.length_cons, List.length_nil, List.cons_append, List.nil_append, List.replicate, List.set_cons_succ, List.set_cons_zero]
  refine asgq_ (hide fun v h => ∃ (s : Sh) (o : Ob), s.good ∧ s.size ≤ 5 ∧ TapeOb o ∧ v = s.val ∧ h = [o]) ?_ ?_
  · simp only [e_call, e_cons, dVar, e_c, e_nil, List.getElem?_cons_succ, List.getElem?_cons_zero, Res.bind_ok, ok_bind]
    refine take_l (k := 38) ho1 (by omega) (by omega) fun r o2 r0 r1 ho2 => ?_
    simp only [ok_ok]
    obtain ⟨c, rfl⟩ : ∃ c : Nat, r = c := ⟨r.toNat, by omega⟩
    refine lv (show 39 = (37 - c) + c + 2 by omega) ?_
    exact shape_sp c ho2 hn hl hl3 hlo (by omega) fun s o3 hs hg ho3 => ⟨s, o3, hg, by omega, ho3, rfl, rfl⟩
  rintro v h ⟨s, o2, hg, hs, ho2, rfl, rfl⟩
  refine asgq_ (hide fun v h => ∃ L : List (List Int), (∀ q, q ∈ L ↔ q ∈ pathsOf s []) ∧ L.length = s.size ∧ v = .lst (L.map pv) ∧ h = [o2]) ?_ ?_
  · simp only [e_fn, e_call, e_cons, e_tup, dVar, e_nil, List.set_cons_succ, List.set_cons_zero, List.getElem?_cons_succ, List.getElem?_cons_zero, Res.bind_ok, ok_bind, mkTup_ok (vs := []) (by simp)]
    refine lv (show 39 = (38 - s.size) + s.size + 1 by omega) ?_
    refine lpaths s (p := []) hg (by simp; omega) ?_
    obtain ⟨L, h1, h2, h3⟩ := sorted_pv (l := pathsOf s []) (by cases s <;> simp [pathsOf]) [o2]
    rw [h3]
    exact ⟨L, h1, by rw [h2, paths_len], rfl, rfl⟩
  rintro v h ⟨L, hL1, hL2, rfl, rfl⟩
  refine asgq_ (hide fun v h => v = .ref 1 ∧ h = [o2, .dic []]) (by simp; exact ⟨rfl, rfl⟩) ?_
  rintro v h ⟨rfl, rfl⟩
  refine asgq_ (hide fun v h => v = .lst (([] : List Nm).map .str) ∧ h = [o2, .dic []]) (by simp [mkLst_ok]; exact ⟨rfl, rfl⟩) ?_
  rintro v h ⟨rfl, rfl⟩
  simp only [List.set_cons_succ, List.set_cons_zero]
  refine sok_seqo (fun l h => ∃ (S : List Nm) (o : Ob), AllS S ∧ S.length ≤ 2 ∧ (L = [] → S = []) ∧ TapeOb o ∧ l = [some (.fz (ns.map .int)), some (.ref 0), some (.tup [.int n, .tup (ls.map .str)]), some s.val, some (.lst (L.map pv)), some (.ref 1), some (.lst (S.map .str)), none, none, none, none] ∧ h = [o, .dic []]) ?_ ?_
  · intro R' hR
    by_cases hL : L = []
    · subst hL
      simp [dVar, mkLst_ok, ne_pl (L := [])]
      rw [show vNe (.lst []) (.lst []) [o2, .dic []] = .ok (.bl false) [o2, .dic []] from ne_pl (L := [])]
      simp
      exact hR _ _ ⟨[], o2, by simp [AllS], by simp, fun _ => rfl, ho2, rfl, rfl⟩
    · have e : L.isEmpty = false := by cases L with
        | nil => exact absurd rfl hL
        | cons => rfl
      simp [dVar, mkLst_ok, ne_pl, e]
      refine take_l (k := 38) ho2 (by omega) (by omega) fun r o3 r0 r1 ho3 => ?_
      simp
      obtain rfl | rfl | rfl : r = 0 ∨ r = 1 ∨ r = 2 := by omega
      · exact hR _ _ ⟨[], o3, by simp [AllS], by simp, fun h => absurd h hL, ho3, rfl, rfl⟩
      · exact hR _ _ ⟨[[120]], o3, by simp [AllS, isS], by simp, fun h => absurd h hL, ho3, rfl, rfl⟩
      · exact hR _ _ ⟨[[120], [121]], o3, by simp [AllS, isS], by simp, fun h => absurd h hL, ho3, rfl, rfl⟩
  rintro l h ⟨S, o3, hS, hSl, hSL, ho3, rfl, rfl⟩
  refine sok_seq (hideL fun l h => ∃ (d : List (Val × Val)) (o : Ob) (y : Option Val), St s S [] d ∧ TapeOb o ∧ l = [some (.fz (ns.map .int)), some (.ref 0), some (.tup [.int n, .tup (ls.map .str)]), some s.val, some (.lst (L.map pv)), some (.ref 1), some (.lst (S.map .str)), y, none, none, none] ∧ h = [o, .dic d]) ?_ ?_
  · simp only [e_for, e_iseq, dVar, List.getElem?_cons_succ, List.getElem?_cons_zero, Res.bind_ok, vIter_lst, Res.to_ok]
    refine forL_invo (fun items l h => ∃ (rest done : List Nm) (d : List (Val × Val)) (o : Ob) (y : Option Val), items = rest.map .str ∧ (∀ x ∈ rest, x ∈ S) ∧ (∀ x ∈ S, x ∈ done ∨ x ∈ rest) ∧ done.length + rest.length = S.length ∧ St s done [] d ∧ TapeOb o ∧ l = [some (.fz (ns.map .int)), some (.ref 0), some (.tup [.int n, .tup (ls.map .str)]), some s.val, some (.lst (L.map pv)), some (.ref 1), some (.lst (S.map .str)), y, none, none, none] ∧ h = [o, .dic d]) ?_ ?_ _ _ _ ⟨S, [], [], o3, none, rfl, fun x hx => hx, fun x hx => .inr hx, by simp, ⟨⟨_, _, env0 s⟩, by simp⟩, ho3, rfl, rfl⟩
    · intro I' hI
      rintro v items l h ⟨rest, done, d, o, y, e, hr, hd, hlen, hst, ho, rfl, rfl⟩
      cases rest with
      | nil => cases e
      | cons x rest =>
        simp only [List.map_cons, List.cons.injEq] at e
        obtain ⟨rfl, rfl⟩ := e
        have hx : x ∈ S := hr x (List.mem_cons_self ..)
        have hLn : L ≠ [] := fun h => by rw [hSL h] at hx; cases hx
        have hLp : 0 < L.length := List.length_pos_iff.mpr hLn
        refine ⟨trivial, ?_⟩
        simp [dVar]
        refine take_l (k := 38) ho (by omega) (by omega) fun r o4 r0 r1 ho4 => ?_
        obtain ⟨v, e1, e2⟩ := nth_of (l := L.map pv) r0 (by simpa using r1)
        obtain ⟨p, hp, rfl⟩ := List.mem_map.mp e2
        rw [vIx_lst e1]
        obtain ⟨⟨ρ, τ, en⟩, ln⟩ := hst
        have hdl : d.length < 16777216 := by simp only [List.length_cons, List.length_nil] at hlen ln; omega
        simp only [ok_ok, set_last (h := [o4]) hdl, show vSet (.ref 1) (.str x) (pv p) [o4, .dic d] = some [o4, .dic (dPut d (.str x) (pv p))] from set_last (h := [o4]) hdl, tok_ok]
        refine hI _ _ _ ⟨rest, x :: done, dPut d (.str x) (pv p), o4, _, rfl, fun y hy => hr y (List.mem_cons_of_mem _ hy), fun y hy => ?_, by simp only [List.length_cons] at hlen ⊢; omega, ⟨⟨_, _, en.bind1 (hS x hx) ((hL1 p).mp hp)⟩, ?_⟩, ho4, rfl, rfl⟩
        · rcases hd y hy with h | h
          · exact .inl (List.mem_cons_of_mem _ h)
          · rcases List.mem_cons.mp h with h | h
            · rw [h]; exact .inl (List.mem_cons_self ..)
            · exact .inr h
        · have := dput_len d (.str x) (pv p)
          simp only [List.length_cons, List.length_nil] at ln ⊢
          omega
    · rintro l h ⟨rest, done, d, o, y, e, hr, hd, hlen, ⟨⟨ρ, τ, en⟩, ln⟩, ho, rfl, rfl⟩
      cases rest with
      | cons => cases e
      | nil =>
        refine ⟨trivial, d, o, y, ⟨⟨ρ, τ, ⟨fun x hx => en.sg x ((hd x hx).resolve_right (by simp)), fun x hx => by cases hx⟩⟩, by simp at hlen ln ⊢; omega⟩, ho, rfl, rfl⟩
  rintro l h ⟨d1, o4, y1, hst1, ho4, rfl, rfl⟩
  refine asgo_ (fun v h => ∃ (T : List Nm) (o : Ob), AllT T ∧ T.length ≤ 2 ∧ TapeOb o ∧ v = .lst (T.map .str) ∧ h = [o, .dic d1]) ?_ ?_
  · intro R' hR
    simp [dVar, mkLst_ok]
    refine take_l (k := 38) ho4 (by omega) (by omega) fun r o5 r0 r1 ho5 => ?_
    simp
    obtain rfl | rfl | rfl : r = 0 ∨ r = 1 ∨ r = 2 := by omega
    · exact hR _ _ ⟨[], o5, by simp [AllT], by simp, ho5, rfl, rfl⟩
    · exact hR _ _ ⟨[[88]], o5, by simp [AllT, isT], by simp, ho5, rfl, rfl⟩
    · exact hR _ _ ⟨[[88], [89]], o5, by simp [AllT, isT], by simp, ho5, rfl, rfl⟩
  rintro v h ⟨T, o5, hT, hTl, ho5, rfl, rfl⟩
  simp only [List.set_cons_succ, List.set_cons_zero]
  refine sok_seq (hideL fun l h => ∃ (d : List (Val × Val)) (o : Ob) (y : Option Val), St s S T d ∧ TapeOb o ∧ l = [some (.fz (ns.map .int)), some (.ref 0), some (.tup [.int n, .tup (ls.map .str)]), some s.val, some (.lst (L.map pv)), some (.ref 1), some (.lst (S.map .str)), y, some (.lst (T.map .str)), none, none] ∧ h = [o, .dic d]) ?_ ?_
  · simp only [e_for, e_iseq, dVar, List.getElem?_cons_succ, List.getElem?_cons_zero, Res.bind_ok, vIter_lst, Res.to_ok]
    refine forL_invo (fun items l h => ∃ (rest done : List Nm) (d : List (Val × Val)) (o : Ob) (y : Option Val), items = rest.map .str ∧ (∀ x ∈ rest, x ∈ T) ∧ (∀ x ∈ T, x ∈ done ∨ x ∈ rest) ∧ done.length + rest.length = T.length ∧ St s S done d ∧ TapeOb o ∧ l = [some (.fz (ns.map .int)), some (.ref 0), some (.tup [.int n, .tup (ls.map .str)]), some s.val, some (.lst (L.map pv)), some (.ref 1), some (.lst (S.map .str)), y, some (.lst (T.map .str)), none, none] ∧ h = [o, .dic d]) ?_ ?_ _ _ _ ⟨T, [], d1, o5, y1, rfl, fun x hx => hx, fun x hx => .inr hx, by simp, hst1, ho5, rfl, rfl⟩
    · intro I' hI
      rintro v items l h ⟨rest, done, d, o, y, e, hr, hd, hlen, hst, ho, rfl, rfl⟩
      cases rest with
      | nil => cases e
      | cons x rest =>
        simp only [List.map_cons, List.cons.injEq] at e
        obtain ⟨rfl, rfl⟩ := e
        have hx : x ∈ T := hr x (List.mem_cons_self ..)
        refine ⟨trivial, ?_⟩
        obtain ⟨⟨ρ, τ, en⟩, ln⟩ := hst
        have hdl : d.length < 16777216 := by simp only [List.length_cons] at hlen ln; omega
        simp only [e_name, tok_ok, List.set_cons_succ, List.set_cons_zero, e_seq, e_asg, e_fn, sok_then, sok_to, ok_bind, ok_dLc, e_iseq, dVar, List.getElem?_cons_succ, List.getElem?_cons_zero, Res.bind_ok, vIter_lst, ok_ok]
        refine ok_imp (P := fun ys h => ∃ (A : List (List Int)) (o : Ob), TapeOb o ∧ ys = A.map pv ∧ h = [o, .dic d]) ?_ ?_
        · refine lcL_invo (fun items acc h => ∃ (r2 A : List (List Int)) (o : Ob), items = r2.map pv ∧ TapeOb o ∧ acc = A.map pv ∧ h = [o, .dic d]) ?_ ?_ _ _ _ ⟨L, [], o, rfl, ho, rfl, rfl⟩
          · intro IA hA
            rintro z items acc h ⟨r2, A, o, e, ho, rfl, rfl⟩
            cases r2 with
            | nil => cases e
            | cons a r2 =>
              simp only [List.map_cons, List.cons.injEq] at e
              obtain ⟨rfl, rfl⟩ := e
              refine ⟨trivial, ?_⟩
              simp [dVar, wipeL]
              refine take_l (k := 38) ho (by omega) (by omega) fun r o6 r0 r1 ho6 => ?_
              simp
              by_cases hr1 : r = 1
              · simp [hr1]
                exact hA _ _ _ ⟨r2, A ++ [a], o6, rfl, ho6, by simp, rfl⟩
              · simp [hr1]
                exact hA _ _ _ ⟨r2, A, o6, rfl, ho6, rfl, rfl⟩
          · rintro acc h ⟨r2, A, o, e, ho, rfl, rfl⟩
            exact ⟨trivial, A, o, ho, rfl, rfl⟩
        · rintro ys h ⟨A, o6, ho6, rfl, rfl⟩
          simp only [ok_frozen]
          rw [show vTuple (.lst (A.map pv)) [o6, .dic d] = .ok (tv A) [o6, .dic d] from rfl]
          simp only [ok_ok, sok_s, e_sub, dVar, List.getElem?_cons_succ, List.getElem?_cons_zero, Res.toT_ok, show vSet (.ref 1) (.str x) (tv A) [o6, .dic d] = some [o6, .dic (dPut d (.str x) (tv A))] from set_last (h := [o6]) hdl, tok_ok, e_next, sok_nx]
          refine hI _ _ _ ⟨rest, x :: done, dPut d (.str x) (tv A), o6, _, rfl, fun y hy => hr y (List.mem_cons_of_mem _ hy), fun y hy => ?_, by simp only [List.length_cons] at hlen ⊢; omega, ⟨⟨_, _, en.bind2 (hT x hx)⟩, ?_⟩, ho6, rfl, rfl⟩
          · rcases hd y hy with h | h
            · exact .inl (List.mem_cons_of_mem _ h)
            · rcases List.mem_cons.mp h with h | h
              · rw [h]; exact .inl (List.mem_cons_self ..)
              · exact .inr h
          · have := dput_len d (.str x) (tv A)
            simp only [List.length_cons] at ln ⊢
            omega
    · rintro l h ⟨rest, done, d, o, y, e, hr, hd, hlen, ⟨⟨ρ, τ, en⟩, ln⟩, ho, rfl, rfl⟩
      cases rest with
      | cons => cases e
      | nil =>
        refine ⟨trivial, d, o, y, ⟨⟨ρ, τ, ⟨en.sg, fun x hx => en.st x ((hd x hx).resolve_right (by simp))⟩⟩, by simp at hlen ln ⊢; omega⟩, ho, rfl, rfl⟩
  rintro l h ⟨d2, o6, y2, hst2, ho6, rfl, rfl⟩
  obtain ⟨La, hLa1, hLa2, hLa3⟩ := paths_sp s hg (by omega)
  refine sok_seq (hideL fun l h => l = [some (.fz (ns.map .int)), some (.ref 0), some (.tup [.int n, .tup (ls.map .str)]), some s.val, some (.lst (L.map pv)), some (.ref 1), some (.lst (S.map .str)), y2, some (.lst (T.map .str)), none, none] ∧ h = [o6, .dic d2, .dic []]) ?_ ?_
  · simp [dVar, mkTup_ok]
    have e := holds_a hg (by omega) hLa1 hLa2 hLa3 fullF (k := 33) (j := 2) (h := [o6, .dic d2, .dic []]) (P := fun v h => v = .bl true ∧ h = [o6, .dic d2, .dic []]) (env0 s) rfl ⟨by decide, by decide, by simp, by simp⟩ (by decide) ⟨by rw [full_true], rfl⟩
    refine ok_imp (show ok (lev D 39 6 [fullF.val, s.val, .ref 2] [o6, .dic d2, .dic []]) _ from e) ?_
    rintro v h ⟨rfl, rfl⟩
    refine same_b (k := 38) ?_
    simp [dVar]
    exact ⟨rfl, rfl⟩
  rintro l h ⟨rfl, rfl⟩
  refine asgq_ (hide fun v h => ∃ (f : Fm) (o : Ob), WF f S T ∧ f.dep ≤ 6 ∧ TapeOb o ∧ v = f.val ∧ h = [o, .dic d2, .dic []]) ?_ ?_
  · simp only [e_call, e_cons, dVar, e_c, e_nil, List.getElem?_cons_succ, List.getElem?_cons_zero, Res.bind_ok]
    exact gen_matrix 3 (k := 33) ho6 hn hl hl3 hS hT (by omega) (by omega) fun f o7 w e ho7 => ⟨f, o7, w, by omega, ho7, rfl, rfl⟩
  rintro v h ⟨f, o7, wf, df, ho7, rfl, rfl⟩
  simp only [List.set_cons_succ, List.set_cons_zero]
  refine sok_seqo (fun l h => ∃ (f : Fm) (o : Ob), WF f S T ∧ f.dep ≤ 7 ∧ l = [some (.fz (ns.map .int)), some (.ref 0), some (.tup [.int n, .tup (ls.map .str)]), some s.val, some (.lst (L.map pv)), some (.ref 1), some (.lst (S.map .str)), y2, some (.lst (T.map .str)), some f.val, none] ∧ h = [o, .dic d2, .dic []]) ?_ ?_
  · intro R' hR
    simp [dVar]
    refine take_l (k := 38) ho7 (by omega) (by omega) fun r o8 r0 r1 ho8 => ?_
    by_cases hr : r = 0
    · simp [hr, dVar]
      refine gen_sentence (k := 33) ho8 hn hl hl3 fun f' o9 w' e' ho9 => ?_
      simp [mkTup_ok]
      exact hR _ _ ⟨.or f' f, o9, ⟨WF_mono f' (fun x hx => by simp at hx) (fun x hx => by simp at hx) w', wf⟩, by simp [Fm.dep]; omega, rfl, rfl⟩
    · simp [hr]
      exact hR _ _ ⟨f, o8, wf, by omega, rfl, rfl⟩
  rintro l h ⟨f2, o8, w2, df2, rfl, rfl⟩
  refine ret_ ?_
  simp [dVar]
  obtain ⟨⟨ρ, τ, en⟩, ln⟩ := hst2
  have hA := holds_a hg (by omega) hLa1 hLa2 hLa3 f2 (k := 35 - f2.dep) (j := 1) (h := [o8, .dic d2, .dic []]) (P := fun v h => v = .bl (ev1 s La (subs La) f2 ρ τ) ∧ h = [o8, .dic d2, .dic []]) en rfl w2 (by omega) ⟨rfl, rfl⟩
  have hB := holds_b (L := pathsOf s []) hg (by omega) (fun q => Iff.rfl) (paths_len s []) (fun k h P z => lpaths s (p := []) hg (by simp; omega) z) f2 (k := 35 - f2.dep) (j := 1) (h := [o8, .dic d2, .dic []]) (P := fun v h => v = .bl (ev1 s (pathsOf s []) (subs (pathsOf s [])) f2 ρ τ) ∧ h = [o8, .dic d2, .dic []]) (by omega) en rfl w2 (by omega) ⟨rfl, rfl⟩
  rw [show 35 - f2.dep + f2.dep + 4 = 39 by omega] at hA hB
  refine ok_imp hA ?_
  rintro v h ⟨rfl, rfl⟩
  refine ok_imp hB ?_
  rintro v h ⟨rfl, rfl⟩
  refine same_b (k := 38) ?_
  rw [ev_eq hLa1 (subs_same hLa1) (fun B hB => by
    obtain ⟨A, hA, e⟩ := subs_same (fun q => (hLa1 q).symm) B hB
    exact ⟨A, hA, fun q => (e q).symm⟩) f2 ρ τ τ (fun X q => Iff.rfl)]
  simp
end L06

set_option Elab.async false
set_option linter.all false
set_option maxRecDepth 100000
set_option maxHeartbeats 0
namespace L06
open PySem PySem.Spec PyProof.Rows L2 GH

def fn0 : List He.DefD := ([⟨("all_elements", none), "all_elements", "all_elements", defArgs (top 1), defBody (top 1), defScope (top 1), [], []⟩, ⟨("paths", none), "paths", "paths", defArgs (top 2), defBody (top 2), defScope (top 2), [], []⟩, ⟨("label_at", none), "label_at", "label_at", defArgs (top 4), defBody (top 4), defScope (top 4), [], []⟩, ⟨("atom_holds", none), "atom_holds", "atom_holds", defArgs (top 5), defBody (top 5), defScope (top 5), [], []⟩, ⟨("subsets", none), "subsets", "subsets", defArgs (top 6), defBody (top 6), defScope (top 6), [], []⟩, ⟨("with_value", none), "with_value", "with_value", defArgs (top 7), defBody (top 7), defScope (top 7), [], []⟩, ⟨("holds", none), "holds", "holds", defArgs (top 8), defBody (top 8), defScope (top 8), [], []⟩, ⟨("_law_tape", none), "_law_tape", "_law_tape", defArgs (top 10), defBody (top 10), defScope (top 10), [], []⟩, ⟨("_law_take", none), "_law_take", "_law_take", defArgs (top 11), defBody (top 11), defScope (top 11), [], []⟩, ⟨("_law_is_integer", none), "_law_is_integer", "_law_is_integer", defArgs (top 12), defBody (top 12), defScope (top 12), [], []⟩, ⟨("_law_same_items", none), "_law_same_items", "_law_same_items", defArgs (top 13), defBody (top 13), defScope (top 13), [], []⟩, ⟨("_law_same", none), "_law_same", "_law_same", defArgs (top 14), defBody (top 14), defScope (top 14), [], []⟩, ⟨("_law_kind", none), "_law_kind", "_law_kind", defArgs (top 15), defBody (top 15), defScope (top 15), [], []⟩, ⟨("_law_shape", none), "_law_shape", "_law_shape", defArgs (top 16), defBody (top 16), defScope (top 16), [], []⟩, ⟨("_law_paths", none), "_law_paths", "_law_paths", defArgs (top 17), defBody (top 17), defScope (top 17), [], []⟩, ⟨("_law_part", none), "_law_part", "_law_part", defArgs (top 18), defBody (top 18), defScope (top 18), [], []⟩, ⟨("_law_atom", none), "_law_atom", "_law_atom", defArgs (top 19), defBody (top 19), defScope (top 19), [], []⟩, ⟨("_law_matrix", none), "_law_matrix", "_law_matrix", defArgs (top 20), defBody (top 20), defScope (top 20), [], []⟩, ⟨("_law_closed", none), "_law_closed", "_law_closed", defArgs (top 21), defBody (top 21), defScope (top 21), [], []⟩, ⟨("_law_sentence", none), "_law_sentence", "_law_sentence", defArgs (top 22), defBody (top 22), defScope (top 22), [], []⟩, ⟨("_law_subsets", none), "_law_subsets", "_law_subsets", defArgs (top 23), defBody (top 23), defScope (top 23), [], []⟩, ⟨("_law_atom_holds", none), "_law_atom_holds", "_law_atom_holds", defArgs (top 24), defBody (top 24), defScope (top 24), [], []⟩, ⟨("_law_holds", none), "_law_holds", "_law_holds", defArgs (top 25), defBody (top 25), defScope (top 25), [], []⟩, ⟨("law", none), "law", "law", defArgs (top 26), defBody (top 26), defScope (top 26), [], []⟩])
def fn : List He.DefD := fn0
def fa0 : List He.Fa := ([.glo "all_elements", .glo "paths", .glo "label_at", .glo "atom_holds", .glo "subsets", .glo "with_value", .glo "holds", .glo "_law_tape", .glo "_law_take", .glo "_law_is_integer", .glo "_law_same_items", .glo "_law_same", .glo "_law_kind", .glo "_law_shape", .glo "_law_paths", .glo "_law_part", .glo "_law_atom", .glo "_law_matrix", .glo "_law_closed", .glo "_law_sentence", .glo "_law_subsets", .glo "_law_atom_holds", .glo "_law_holds", .glo "law", .free "abs", .free "all", .free "bool", .free "dict", .free "enumerate", .free "int"])
def fa1 : List He.Fa := ([.free "isinstance", .free "len", .free "list", .free "range", .free "sorted", .free "str", .free "tuple"])
def fa : List He.Fa := fa0 ++ fa1
def nm0 : List PySem.Str := ([("all_elements" : PySem.Str), ("paths" : PySem.Str), ("label_at" : PySem.Str), ("atom_holds" : PySem.Str), ("subsets" : PySem.Str), ("with_value" : PySem.Str), ("holds" : PySem.Str), ("_law_tape" : PySem.Str), ("_law_take" : PySem.Str), ("_law_is_integer" : PySem.Str), ("_law_same_items" : PySem.Str), ("_law_same" : PySem.Str), ("_law_kind" : PySem.Str), ("_law_shape" : PySem.Str), ("_law_paths" : PySem.Str), ("_law_part" : PySem.Str), ("_law_atom" : PySem.Str), ("_law_matrix" : PySem.Str), ("_law_closed" : PySem.Str), ("_law_sentence" : PySem.Str), ("_law_subsets" : PySem.Str), ("_law_atom_holds" : PySem.Str), ("_law_holds" : PySem.Str)])
def nm : List PySem.Str := nm0
abbrev R : PySem.W.OpenRow := PySem.W.OpenLaw.row PySem.Challenge.rw_grovehouse_k06_plain_meaning
abbrev hk : PySem.W.Hook := He.hookD 4 fa fn
def ob (s : PySem.W.SharedT) : He.AlD := He.obsDG 4 fa fn (HandSHeadRun.getT s)
theorem ob_eq (s : PySem.W.SharedT) : ob s = hk.obs s.abs := He.obsDG_eq (HandSHeadRun.getT_eq s)
theorem run (w : World) : HandSHeadRun.RunEq R (PySem.W.view R.prog [26]) hk ob 3000 nm w := by
  intro os
  kernel_rfl
theorem u_all_elements {K : PySem.W.Frag} (c : He.SaysD fa fn K) : ∃ fd, FnP K "all_elements" 1 fd ∧ Binds K fd ["shape"] [] := by
  obtain ⟨fd, F⟩ := c.def_ 0 (d := ⟨("all_elements", none), "all_elements", "all_elements", defArgs (top 1), defBody (top 1), defScope (top 1), [], []⟩) rfl
  exact ⟨fd, F, FunD.bindsN (ps := ["shape"]) F fun _ _ _ _ _ _ us hl => match us, hl with | [_], _ => rfl⟩
theorem u_paths {K : PySem.W.Frag} (c : He.SaysD fa fn K) : ∃ fd, FnP K "paths" 2 fd ∧ Binds K fd ["shape"] [] := by
  obtain ⟨fd, F⟩ := c.def_ 1 (d := ⟨("paths", none), "paths", "paths", defArgs (top 2), defBody (top 2), defScope (top 2), [], []⟩) rfl
  exact ⟨fd, F, FunD.bindsN (ps := ["shape"]) F fun _ _ _ _ _ _ us hl => match us, hl with | [_], _ => rfl⟩
theorem u_label_at {K : PySem.W.Frag} (c : He.SaysD fa fn K) : ∃ fd, FnP K "label_at" 4 fd ∧ Binds K fd ["shape", "path"] [] := by
  obtain ⟨fd, F⟩ := c.def_ 2 (d := ⟨("label_at", none), "label_at", "label_at", defArgs (top 4), defBody (top 4), defScope (top 4), [], []⟩) rfl
  exact ⟨fd, F, FunD.bindsN (ps := ["shape", "path"]) F fun _ _ _ _ _ _ us hl => match us, hl with | [_, _], _ => rfl⟩
theorem u_atom_holds {K : PySem.W.Frag} (c : He.SaysD fa fn K) : ∃ fd, FnP K "atom_holds" 5 fd ∧ Binds K fd ["formula", "shape", "values"] [] := by
  obtain ⟨fd, F⟩ := c.def_ 3 (d := ⟨("atom_holds", none), "atom_holds", "atom_holds", defArgs (top 5), defBody (top 5), defScope (top 5), [], []⟩) rfl
  exact ⟨fd, F, FunD.bindsN (ps := ["formula", "shape", "values"]) F fun _ _ _ _ _ _ us hl => match us, hl with | [_, _, _], _ => rfl⟩
theorem u_subsets {K : PySem.W.Frag} (c : He.SaysD fa fn K) : ∃ fd, FnP K "subsets" 6 fd ∧ Binds K fd ["every"] [] := by
  obtain ⟨fd, F⟩ := c.def_ 4 (d := ⟨("subsets", none), "subsets", "subsets", defArgs (top 6), defBody (top 6), defScope (top 6), [], []⟩) rfl
  exact ⟨fd, F, FunD.bindsN (ps := ["every"]) F fun _ _ _ _ _ _ us hl => match us, hl with | [_], _ => rfl⟩
theorem u_with_value {K : PySem.W.Frag} (c : He.SaysD fa fn K) : ∃ fd, FnP K "with_value" 7 fd ∧ Binds K fd ["values", "name", "value"] [] := by
  obtain ⟨fd, F⟩ := c.def_ 5 (d := ⟨("with_value", none), "with_value", "with_value", defArgs (top 7), defBody (top 7), defScope (top 7), [], []⟩) rfl
  exact ⟨fd, F, FunD.bindsN (ps := ["values", "name", "value"]) F fun _ _ _ _ _ _ us hl => match us, hl with | [_, _, _], _ => rfl⟩
theorem u_holds {K : PySem.W.Frag} (c : He.SaysD fa fn K) : ∃ fd, FnP K "holds" 8 fd ∧ Binds K fd ["formula", "shape", "values"] [] := by
  obtain ⟨fd, F⟩ := c.def_ 6 (d := ⟨("holds", none), "holds", "holds", defArgs (top 8), defBody (top 8), defScope (top 8), [], []⟩) rfl
  exact ⟨fd, F, FunD.bindsN (ps := ["formula", "shape", "values"]) F fun _ _ _ _ _ _ us hl => match us, hl with | [_, _, _], _ => rfl⟩
theorem u__law_tape {K : PySem.W.Frag} (c : He.SaysD fa fn K) : ∃ fd, FnP K "_law_tape" 10 fd ∧ Binds K fd ["script"] [] := by
  obtain ⟨fd, F⟩ := c.def_ 7 (d := ⟨("_law_tape", none), "_law_tape", "_law_tape", defArgs (top 10), defBody (top 10), defScope (top 10), [], []⟩) rfl
  exact ⟨fd, F, FunD.bindsN (ps := ["script"]) F fun _ _ _ _ _ _ us hl => match us, hl with | [_], _ => rfl⟩
theorem u__law_take {K : PySem.W.Frag} (c : He.SaysD fa fn K) : ∃ fd, FnP K "_law_take" 11 fd ∧ Binds K fd ["tape", "many"] [] := by
  obtain ⟨fd, F⟩ := c.def_ 8 (d := ⟨("_law_take", none), "_law_take", "_law_take", defArgs (top 11), defBody (top 11), defScope (top 11), [], []⟩) rfl
  exact ⟨fd, F, FunD.bindsN (ps := ["tape", "many"]) F fun _ _ _ _ _ _ us hl => match us, hl with | [_, _], _ => rfl⟩
theorem u__law_is_integer {K : PySem.W.Frag} (c : He.SaysD fa fn K) : ∃ fd, FnP K "_law_is_integer" 12 fd ∧ Binds K fd ["actual"] [] := by
  obtain ⟨fd, F⟩ := c.def_ 9 (d := ⟨("_law_is_integer", none), "_law_is_integer", "_law_is_integer", defArgs (top 12), defBody (top 12), defScope (top 12), [], []⟩) rfl
  exact ⟨fd, F, FunD.bindsN (ps := ["actual"]) F fun _ _ _ _ _ _ us hl => match us, hl with | [_], _ => rfl⟩
theorem u__law_same_items {K : PySem.W.Frag} (c : He.SaysD fa fn K) : ∃ fd, FnP K "_law_same_items" 13 fd ∧ Binds K fd ["actual", "expected"] [] := by
  obtain ⟨fd, F⟩ := c.def_ 10 (d := ⟨("_law_same_items", none), "_law_same_items", "_law_same_items", defArgs (top 13), defBody (top 13), defScope (top 13), [], []⟩) rfl
  exact ⟨fd, F, FunD.bindsN (ps := ["actual", "expected"]) F fun _ _ _ _ _ _ us hl => match us, hl with | [_, _], _ => rfl⟩
theorem u__law_same {K : PySem.W.Frag} (c : He.SaysD fa fn K) : ∃ fd, FnP K "_law_same" 14 fd ∧ Binds K fd ["actual", "expected"] [] := by
  obtain ⟨fd, F⟩ := c.def_ 11 (d := ⟨("_law_same", none), "_law_same", "_law_same", defArgs (top 14), defBody (top 14), defScope (top 14), [], []⟩) rfl
  exact ⟨fd, F, FunD.bindsN (ps := ["actual", "expected"]) F fun _ _ _ _ _ _ us hl => match us, hl with | [_, _], _ => rfl⟩
theorem u__law_kind {K : PySem.W.Frag} (c : He.SaysD fa fn K) : ∃ fd, FnP K "_law_kind" 15 fd ∧ Binds K fd ["tape"] [] := by
  obtain ⟨fd, F⟩ := c.def_ 12 (d := ⟨("_law_kind", none), "_law_kind", "_law_kind", defArgs (top 15), defBody (top 15), defScope (top 15), [], []⟩) rfl
  exact ⟨fd, F, FunD.bindsN (ps := ["tape"]) F fun _ _ _ _ _ _ us hl => match us, hl with | [_], _ => rfl⟩
theorem u__law_shape {K : PySem.W.Frag} (c : He.SaysD fa fn K) : ∃ fd, FnP K "_law_shape" 16 fd ∧ Binds K fd ["tape", "kind", "count"] [] := by
  obtain ⟨fd, F⟩ := c.def_ 13 (d := ⟨("_law_shape", none), "_law_shape", "_law_shape", defArgs (top 16), defBody (top 16), defScope (top 16), [], []⟩) rfl
  exact ⟨fd, F, FunD.bindsN (ps := ["tape", "kind", "count"]) F fun _ _ _ _ _ _ us hl => match us, hl with | [_, _, _], _ => rfl⟩
theorem u__law_paths {K : PySem.W.Frag} (c : He.SaysD fa fn K) : ∃ fd, FnP K "_law_paths" 17 fd ∧ Binds K fd ["shape", "path"] [] := by
  obtain ⟨fd, F⟩ := c.def_ 14 (d := ⟨("_law_paths", none), "_law_paths", "_law_paths", defArgs (top 17), defBody (top 17), defScope (top 17), [], []⟩) rfl
  exact ⟨fd, F, FunD.bindsN (ps := ["shape", "path"]) F fun _ _ _ _ _ _ us hl => match us, hl with | [_, _], _ => rfl⟩
theorem u__law_part {K : PySem.W.Frag} (c : He.SaysD fa fn K) : ∃ fd, FnP K "_law_part" 18 fd ∧ Binds K fd ["shape", "path"] [] := by
  obtain ⟨fd, F⟩ := c.def_ 15 (d := ⟨("_law_part", none), "_law_part", "_law_part", defArgs (top 18), defBody (top 18), defScope (top 18), [], []⟩) rfl
  exact ⟨fd, F, FunD.bindsN (ps := ["shape", "path"]) F fun _ _ _ _ _ _ us hl => match us, hl with | [_, _], _ => rfl⟩
theorem u__law_atom {K : PySem.W.Frag} (c : He.SaysD fa fn K) : ∃ fd, FnP K "_law_atom" 19 fd ∧ Binds K fd ["tape", "kind", "singles", "sets"] [] := by
  obtain ⟨fd, F⟩ := c.def_ 16 (d := ⟨("_law_atom", none), "_law_atom", "_law_atom", defArgs (top 19), defBody (top 19), defScope (top 19), [], []⟩) rfl
  exact ⟨fd, F, FunD.bindsN (ps := ["tape", "kind", "singles", "sets"]) F fun _ _ _ _ _ _ us hl => match us, hl with | [_, _, _, _], _ => rfl⟩
theorem u__law_matrix {K : PySem.W.Frag} (c : He.SaysD fa fn K) : ∃ fd, FnP K "_law_matrix" 20 fd ∧ Binds K fd ["tape", "kind", "singles", "sets", "depth"] [] := by
  obtain ⟨fd, F⟩ := c.def_ 17 (d := ⟨("_law_matrix", none), "_law_matrix", "_law_matrix", defArgs (top 20), defBody (top 20), defScope (top 20), [], []⟩) rfl
  exact ⟨fd, F, FunD.bindsN (ps := ["tape", "kind", "singles", "sets", "depth"]) F fun _ _ _ _ _ _ us hl => match us, hl with | [_, _, _, _, _], _ => rfl⟩
theorem u__law_closed {K : PySem.W.Frag} (c : He.SaysD fa fn K) : ∃ fd, FnP K "_law_closed" 21 fd ∧ Binds K fd ["tape", "formula", "singles", "sets"] [] := by
  obtain ⟨fd, F⟩ := c.def_ 18 (d := ⟨("_law_closed", none), "_law_closed", "_law_closed", defArgs (top 21), defBody (top 21), defScope (top 21), [], []⟩) rfl
  exact ⟨fd, F, FunD.bindsN (ps := ["tape", "formula", "singles", "sets"]) F fun _ _ _ _ _ _ us hl => match us, hl with | [_, _, _, _], _ => rfl⟩
theorem u__law_sentence {K : PySem.W.Frag} (c : He.SaysD fa fn K) : ∃ fd, FnP K "_law_sentence" 22 fd ∧ Binds K fd ["tape", "kind", "depth"] [] := by
  obtain ⟨fd, F⟩ := c.def_ 19 (d := ⟨("_law_sentence", none), "_law_sentence", "_law_sentence", defArgs (top 22), defBody (top 22), defScope (top 22), [], []⟩) rfl
  exact ⟨fd, F, FunD.bindsN (ps := ["tape", "kind", "depth"]) F fun _ _ _ _ _ _ us hl => match us, hl with | [_, _, _], _ => rfl⟩
theorem u__law_subsets {K : PySem.W.Frag} (c : He.SaysD fa fn K) : ∃ fd, FnP K "_law_subsets" 23 fd ∧ Binds K fd ["every"] [] := by
  obtain ⟨fd, F⟩ := c.def_ 20 (d := ⟨("_law_subsets", none), "_law_subsets", "_law_subsets", defArgs (top 23), defBody (top 23), defScope (top 23), [], []⟩) rfl
  exact ⟨fd, F, FunD.bindsN (ps := ["every"]) F fun _ _ _ _ _ _ us hl => match us, hl with | [_], _ => rfl⟩
theorem u__law_atom_holds {K : PySem.W.Frag} (c : He.SaysD fa fn K) : ∃ fd, FnP K "_law_atom_holds" 24 fd ∧ Binds K fd ["formula", "shape", "values"] [] := by
  obtain ⟨fd, F⟩ := c.def_ 21 (d := ⟨("_law_atom_holds", none), "_law_atom_holds", "_law_atom_holds", defArgs (top 24), defBody (top 24), defScope (top 24), [], []⟩) rfl
  exact ⟨fd, F, FunD.bindsN (ps := ["formula", "shape", "values"]) F fun _ _ _ _ _ _ us hl => match us, hl with | [_, _, _], _ => rfl⟩
theorem u__law_holds {K : PySem.W.Frag} (c : He.SaysD fa fn K) : ∃ fd, FnP K "_law_holds" 25 fd ∧ Binds K fd ["formula", "shape", "values"] [] := by
  obtain ⟨fd, F⟩ := c.def_ 22 (d := ⟨("_law_holds", none), "_law_holds", "_law_holds", defArgs (top 25), defBody (top 25), defScope (top 25), [], []⟩) rfl
  exact ⟨fd, F, FunD.bindsN (ps := ["formula", "shape", "values"]) F fun _ _ _ _ _ _ us hl => match us, hl with | [_, _, _], _ => rfl⟩
theorem u_law {K : PySem.W.Frag} (c : He.SaysD fa fn K) : ∃ fd, FnP K "law" 26 fd ∧ Binds K fd ["script"] [] := by
  obtain ⟨fd, F⟩ := c.def_ 23 (d := ⟨("law", none), "law", "law", defArgs (top 26), defBody (top 26), defScope (top 26), [], []⟩) rfl
  exact ⟨fd, F, FunD.bindsN (ps := ["script"]) F fun _ _ _ _ _ _ us hl => match us, hl with | [_], _ => rfl⟩
theorem fc_of {K : PySem.W.Frag} {mg : Str → Option Value} {base : Heap} (X : K.In base) (G : base.Ns mainGlobals mg) (c : He.SaysD fa fn K) : Fc mg := ⟨He.free_ok X G (c.fact 24 (f := .free "abs") rfl), He.free_ok X G (c.fact 25 (f := .free "all") rfl), He.free_ok X G (c.fact 26 (f := .free "bool") rfl), He.free_ok X G (c.fact 27 (f := .free "dict") rfl), He.free_ok X G (c.fact 28 (f := .free "enumerate") rfl), He.free_ok X G (c.fact 29 (f := .free "int") rfl), He.free_ok X G (c.fact 30 (f := .free "isinstance") rfl), He.free_ok X G (c.fact 31 (f := .free "len") rfl), He.free_ok X G (c.fact 32 (f := .free "list") rfl), He.free_ok X G (c.fact 33 (f := .free "range") rfl), He.free_ok X G (c.fact 34 (f := .free "sorted") rfl), He.free_ok X G (c.fact 35 (f := .free "str") rfl), He.free_ok X G (c.fact 36 (f := .free "tuple") rfl)⟩
theorem all_of {P : Program} {w : World} {K : PySem.W.Frag} {mg : Str → Option Value} {base hh : Heap} (X : K.In hh) (G : hh.Ns mainGlobals mg) (c : He.SaysD fa fn K) : ∀ k, AllK P w K mg base sig k (lev D k) := by
  have fc := fc_of X G c
  obtain ⟨fd0, u0, b0⟩ := u_all_elements c
  have g0 := He.glo_ok X G (c.fact 0 (f := .glo "all_elements") rfl)
  obtain ⟨fd1, u1, b1⟩ := u_paths c
  have g1 := He.glo_ok X G (c.fact 1 (f := .glo "paths") rfl)
  obtain ⟨fd2, u2, b2⟩ := u_label_at c
  have g2 := He.glo_ok X G (c.fact 2 (f := .glo "label_at") rfl)
  obtain ⟨fd3, u3, b3⟩ := u_atom_holds c
  have g3 := He.glo_ok X G (c.fact 3 (f := .glo "atom_holds") rfl)
  obtain ⟨fd4, u4, b4⟩ := u_subsets c
  have g4 := He.glo_ok X G (c.fact 4 (f := .glo "subsets") rfl)
  obtain ⟨fd5, u5, b5⟩ := u_with_value c
  have g5 := He.glo_ok X G (c.fact 5 (f := .glo "with_value") rfl)
  obtain ⟨fd6, u6, b6⟩ := u_holds c
  have g6 := He.glo_ok X G (c.fact 6 (f := .glo "holds") rfl)
  obtain ⟨fd7, u7, b7⟩ := u__law_tape c
  have g7 := He.glo_ok X G (c.fact 7 (f := .glo "_law_tape") rfl)
  obtain ⟨fd8, u8, b8⟩ := u__law_take c
  have g8 := He.glo_ok X G (c.fact 8 (f := .glo "_law_take") rfl)
  obtain ⟨fd9, u9, b9⟩ := u__law_is_integer c
  have g9 := He.glo_ok X G (c.fact 9 (f := .glo "_law_is_integer") rfl)
  obtain ⟨fd10, u10, b10⟩ := u__law_same_items c
  have g10 := He.glo_ok X G (c.fact 10 (f := .glo "_law_same_items") rfl)
  obtain ⟨fd11, u11, b11⟩ := u__law_same c
  have g11 := He.glo_ok X G (c.fact 11 (f := .glo "_law_same") rfl)
  obtain ⟨fd12, u12, b12⟩ := u__law_kind c
  have g12 := He.glo_ok X G (c.fact 12 (f := .glo "_law_kind") rfl)
  obtain ⟨fd13, u13, b13⟩ := u__law_shape c
  have g13 := He.glo_ok X G (c.fact 13 (f := .glo "_law_shape") rfl)
  obtain ⟨fd14, u14, b14⟩ := u__law_paths c
  have g14 := He.glo_ok X G (c.fact 14 (f := .glo "_law_paths") rfl)
  obtain ⟨fd15, u15, b15⟩ := u__law_part c
  have g15 := He.glo_ok X G (c.fact 15 (f := .glo "_law_part") rfl)
  obtain ⟨fd16, u16, b16⟩ := u__law_atom c
  have g16 := He.glo_ok X G (c.fact 16 (f := .glo "_law_atom") rfl)
  obtain ⟨fd17, u17, b17⟩ := u__law_matrix c
  have g17 := He.glo_ok X G (c.fact 17 (f := .glo "_law_matrix") rfl)
  obtain ⟨fd18, u18, b18⟩ := u__law_closed c
  have g18 := He.glo_ok X G (c.fact 18 (f := .glo "_law_closed") rfl)
  obtain ⟨fd19, u19, b19⟩ := u__law_sentence c
  have g19 := He.glo_ok X G (c.fact 19 (f := .glo "_law_sentence") rfl)
  obtain ⟨fd20, u20, b20⟩ := u__law_subsets c
  have g20 := He.glo_ok X G (c.fact 20 (f := .glo "_law_subsets") rfl)
  obtain ⟨fd21, u21, b21⟩ := u__law_atom_holds c
  have g21 := He.glo_ok X G (c.fact 21 (f := .glo "_law_atom_holds") rfl)
  obtain ⟨fd22, u22, b22⟩ := u__law_holds c
  have g22 := He.glo_ok X G (c.fact 22 (f := .glo "_law_holds") rfl)
  obtain ⟨fd23, u23, b23⟩ := u_law c
  have g23 := He.glo_ok X G (c.fact 23 (f := .glo "law") rfl)
  refine levels ?_ ?_
  · intro j x ps e
    match j, e with
    | 0, e => exact (by have e : some (("all_elements" : Str), (["shape"] : List Str)) = some (x, ps) := e; cases e; exact ⟨g0, u0.kp, fd0, b0⟩)
    | 1, e => exact (by have e : some (("paths" : Str), (["shape"] : List Str)) = some (x, ps) := e; cases e; exact ⟨g1, u1.kp, fd1, b1⟩)
    | 2, e => exact (by have e : some (("label_at" : Str), (["shape", "path"] : List Str)) = some (x, ps) := e; cases e; exact ⟨g2, u2.kp, fd2, b2⟩)
    | 3, e => exact (by have e : some (("atom_holds" : Str), (["formula", "shape", "values"] : List Str)) = some (x, ps) := e; cases e; exact ⟨g3, u3.kp, fd3, b3⟩)
    | 4, e => exact (by have e : some (("subsets" : Str), (["every"] : List Str)) = some (x, ps) := e; cases e; exact ⟨g4, u4.kp, fd4, b4⟩)
    | 5, e => exact (by have e : some (("with_value" : Str), (["values", "name", "value"] : List Str)) = some (x, ps) := e; cases e; exact ⟨g5, u5.kp, fd5, b5⟩)
    | 6, e => exact (by have e : some (("holds" : Str), (["formula", "shape", "values"] : List Str)) = some (x, ps) := e; cases e; exact ⟨g6, u6.kp, fd6, b6⟩)
    | 7, e => exact (by have e : some (("_law_tape" : Str), (["script"] : List Str)) = some (x, ps) := e; cases e; exact ⟨g7, u7.kp, fd7, b7⟩)
    | 8, e => exact (by have e : some (("_law_take" : Str), (["tape", "many"] : List Str)) = some (x, ps) := e; cases e; exact ⟨g8, u8.kp, fd8, b8⟩)
    | 9, e => exact (by have e : some (("_law_is_integer" : Str), (["actual"] : List Str)) = some (x, ps) := e; cases e; exact ⟨g9, u9.kp, fd9, b9⟩)
    | 10, e => exact (by have e : some (("_law_same_items" : Str), (["actual", "expected"] : List Str)) = some (x, ps) := e; cases e; exact ⟨g10, u10.kp, fd10, b10⟩)
    | 11, e => exact (by have e : some (("_law_same" : Str), (["actual", "expected"] : List Str)) = some (x, ps) := e; cases e; exact ⟨g11, u11.kp, fd11, b11⟩)
    | 12, e => exact (by have e : some (("_law_kind" : Str), (["tape"] : List Str)) = some (x, ps) := e; cases e; exact ⟨g12, u12.kp, fd12, b12⟩)
    | 13, e => exact (by have e : some (("_law_shape" : Str), (["tape", "kind", "count"] : List Str)) = some (x, ps) := e; cases e; exact ⟨g13, u13.kp, fd13, b13⟩)
    | 14, e => exact (by have e : some (("_law_paths" : Str), (["shape", "path"] : List Str)) = some (x, ps) := e; cases e; exact ⟨g14, u14.kp, fd14, b14⟩)
    | 15, e => exact (by have e : some (("_law_part" : Str), (["shape", "path"] : List Str)) = some (x, ps) := e; cases e; exact ⟨g15, u15.kp, fd15, b15⟩)
    | 16, e => exact (by have e : some (("_law_atom" : Str), (["tape", "kind", "singles", "sets"] : List Str)) = some (x, ps) := e; cases e; exact ⟨g16, u16.kp, fd16, b16⟩)
    | 17, e => exact (by have e : some (("_law_matrix" : Str), (["tape", "kind", "singles", "sets", "depth"] : List Str)) = some (x, ps) := e; cases e; exact ⟨g17, u17.kp, fd17, b17⟩)
    | 18, e => exact (by have e : some (("_law_closed" : Str), (["tape", "formula", "singles", "sets"] : List Str)) = some (x, ps) := e; cases e; exact ⟨g18, u18.kp, fd18, b18⟩)
    | 19, e => exact (by have e : some (("_law_sentence" : Str), (["tape", "kind", "depth"] : List Str)) = some (x, ps) := e; cases e; exact ⟨g19, u19.kp, fd19, b19⟩)
    | 20, e => exact (by have e : some (("_law_subsets" : Str), (["every"] : List Str)) = some (x, ps) := e; cases e; exact ⟨g20, u20.kp, fd20, b20⟩)
    | 21, e => exact (by have e : some (("_law_atom_holds" : Str), (["formula", "shape", "values"] : List Str)) = some (x, ps) := e; cases e; exact ⟨g21, u21.kp, fd21, b21⟩)
    | 22, e => exact (by have e : some (("_law_holds" : Str), (["formula", "shape", "values"] : List Str)) = some (x, ps) := e; cases e; exact ⟨g22, u22.kp, fd22, b22⟩)
    | 23, e => exact (by have e : some (("law" : Str), (["script"] : List Str)) = some (x, ps) := e; cases e; exact ⟨g23, u23.kp, fd23, b23⟩)
    | n + 24, e => exact (by have e : (none : Option (Str × List Str)) = some (x, ps) := e; cases e)
  · intro k Γ F j x ps e
    match j, e with
    | 0, e => exact (by have e : some (("all_elements" : Str), (["shape"] : List Str)) = some (x, ps) := e; cases e; exact ⟨⟨fd0, k_all_elements F fc u0, b0⟩, g0, u0.kp⟩)
    | 1, e => exact (by have e : some (("paths" : Str), (["shape"] : List Str)) = some (x, ps) := e; cases e; exact ⟨⟨fd1, k_paths F fc u1, b1⟩, g1, u1.kp⟩)
    | 2, e => exact (by have e : some (("label_at" : Str), (["shape", "path"] : List Str)) = some (x, ps) := e; cases e; exact ⟨⟨fd2, k_label_at F fc u2, b2⟩, g2, u2.kp⟩)
    | 3, e => exact (by have e : some (("atom_holds" : Str), (["formula", "shape", "values"] : List Str)) = some (x, ps) := e; cases e; exact ⟨⟨fd3, k_atom_holds F fc u3, b3⟩, g3, u3.kp⟩)
    | 4, e => exact (by have e : some (("subsets" : Str), (["every"] : List Str)) = some (x, ps) := e; cases e; exact ⟨⟨fd4, k_subsets F fc u4, b4⟩, g4, u4.kp⟩)
    | 5, e => exact (by have e : some (("with_value" : Str), (["values", "name", "value"] : List Str)) = some (x, ps) := e; cases e; exact ⟨⟨fd5, k_with_value F fc u5, b5⟩, g5, u5.kp⟩)
    | 6, e => exact (by have e : some (("holds" : Str), (["formula", "shape", "values"] : List Str)) = some (x, ps) := e; cases e; exact ⟨⟨fd6, k_holds F fc u6, b6⟩, g6, u6.kp⟩)
    | 7, e => exact (by have e : some (("_law_tape" : Str), (["script"] : List Str)) = some (x, ps) := e; cases e; exact ⟨⟨fd7, k__law_tape F fc u7, b7⟩, g7, u7.kp⟩)
    | 8, e => exact (by have e : some (("_law_take" : Str), (["tape", "many"] : List Str)) = some (x, ps) := e; cases e; exact ⟨⟨fd8, k__law_take F fc u8, b8⟩, g8, u8.kp⟩)
    | 9, e => exact (by have e : some (("_law_is_integer" : Str), (["actual"] : List Str)) = some (x, ps) := e; cases e; exact ⟨⟨fd9, k__law_is_integer F fc u9, b9⟩, g9, u9.kp⟩)
    | 10, e => exact (by have e : some (("_law_same_items" : Str), (["actual", "expected"] : List Str)) = some (x, ps) := e; cases e; exact ⟨⟨fd10, k__law_same_items F fc u10, b10⟩, g10, u10.kp⟩)
    | 11, e => exact (by have e : some (("_law_same" : Str), (["actual", "expected"] : List Str)) = some (x, ps) := e; cases e; exact ⟨⟨fd11, k__law_same F fc u11, b11⟩, g11, u11.kp⟩)
    | 12, e => exact (by have e : some (("_law_kind" : Str), (["tape"] : List Str)) = some (x, ps) := e; cases e; exact ⟨⟨fd12, k__law_kind F fc u12, b12⟩, g12, u12.kp⟩)
    | 13, e => exact (by have e : some (("_law_shape" : Str), (["tape", "kind", "count"] : List Str)) = some (x, ps) := e; cases e; exact ⟨⟨fd13, k__law_shape F fc u13, b13⟩, g13, u13.kp⟩)
    | 14, e => exact (by have e : some (("_law_paths" : Str), (["shape", "path"] : List Str)) = some (x, ps) := e; cases e; exact ⟨⟨fd14, k__law_paths F fc u14, b14⟩, g14, u14.kp⟩)
    | 15, e => exact (by have e : some (("_law_part" : Str), (["shape", "path"] : List Str)) = some (x, ps) := e; cases e; exact ⟨⟨fd15, k__law_part F fc u15, b15⟩, g15, u15.kp⟩)
    | 16, e => exact (by have e : some (("_law_atom" : Str), (["tape", "kind", "singles", "sets"] : List Str)) = some (x, ps) := e; cases e; exact ⟨⟨fd16, k__law_atom F fc u16, b16⟩, g16, u16.kp⟩)
    | 17, e => exact (by have e : some (("_law_matrix" : Str), (["tape", "kind", "singles", "sets", "depth"] : List Str)) = some (x, ps) := e; cases e; exact ⟨⟨fd17, k__law_matrix F fc u17, b17⟩, g17, u17.kp⟩)
    | 18, e => exact (by have e : some (("_law_closed" : Str), (["tape", "formula", "singles", "sets"] : List Str)) = some (x, ps) := e; cases e; exact ⟨⟨fd18, k__law_closed F fc u18, b18⟩, g18, u18.kp⟩)
    | 19, e => exact (by have e : some (("_law_sentence" : Str), (["tape", "kind", "depth"] : List Str)) = some (x, ps) := e; cases e; exact ⟨⟨fd19, k__law_sentence F fc u19, b19⟩, g19, u19.kp⟩)
    | 20, e => exact (by have e : some (("_law_subsets" : Str), (["every"] : List Str)) = some (x, ps) := e; cases e; exact ⟨⟨fd20, k__law_subsets F fc u20, b20⟩, g20, u20.kp⟩)
    | 21, e => exact (by have e : some (("_law_atom_holds" : Str), (["formula", "shape", "values"] : List Str)) = some (x, ps) := e; cases e; exact ⟨⟨fd21, k__law_atom_holds F fc u21, b21⟩, g21, u21.kp⟩)
    | 22, e => exact (by have e : some (("_law_holds" : Str), (["formula", "shape", "values"] : List Str)) = some (x, ps) := e; cases e; exact ⟨⟨fd22, k__law_holds F fc u22, b22⟩, g22, u22.kp⟩)
    | 23, e => exact (by have e : some (("law" : Str), (["script"] : List Str)) = some (x, ps) := e; cases e; exact ⟨⟨fd23, k_law F fc u23, b23⟩, g23, u23.kp⟩)
    | n + 24, e => exact (by have e : (none : Option (Str × List Str)) = some (x, ps) := e; cases e)
theorem facts {P : Program} {w : World} {K : PySem.W.Frag} {h : Heap} {mg : Str → Option Value} {f : Addr} (X : K.In h) (G : h.Ns mainGlobals mg) (hfa : mg ("law" : Str) = some (.ref f)) (c : He.SaysD fa fn K) :
    ∃ fd : FuncData, (∀ (s : Shared) (v : Value), BindsTo s fd ⟨[v], []⟩ [("script", v)]) ∧ ∀ base : Heap, K.In base → base.Ns mainGlobals mg → FnOk P w K mg base (CXA P) 40 f fd ["script"] (spG K (lev D 40 23) 1) := by
  obtain ⟨fd, F, b⟩ := u_law c
  have g := He.glo_ok X G (c.fact 23 (f := .glo "law") rfl)
  have e := hfa.symm.trans g
  cases e
  have b' := FunD.bindsA (ps := ["script"]) F fun _ _ _ _ _ _ us hl => match us, hl with | [_], _ => rfl
  refine ⟨fd, fun s v => b' s [v] rfl, fun base X2 G2 => ?_⟩
  exact fn_cxa (k_law (all_of X2 G2 c 39) (fc_of X2 G2 c) F)
end L06
open PySem PySem.W PySem.Calls PyProof.Rows
theorem PySem.Challenge.cw_grovehouse_k06_plain_meaning_holds : PySem.Challenge.rw_grovehouse_k06_plain_meaning.Holds := by
  w_on; o_law
  refine HandSHeadRun.head_any (r := OpenLaw.row PySem.Challenge.rw_grovehouse_k06_plain_meaning) (q := view (OpenLaw.row PySem.Challenge.rw_grovehouse_k06_plain_meaning).prog [26]) (H := L06.hk) (ob := L06.ob) (M := 3000) (loose := L06.nm) (d := HandSHeadRun.topDef (OpenLaw.row PySem.Challenge.rw_grovehouse_k06_plain_meaning).prog 26) (kwd := []) L06.ob_eq
    (by kernel_rfl) (fun s => by kernel_rfl) L06.run (by kernel_rfl) (by kernel_rfl) (by kernel_rfl) (by rfl) (by first | assumption | decide +kernel) (by decide +kernel) ⟨rfl, rfl, rfl, rfl, rfl, by decide +kernel⟩ ?hw ?hc
  case hw => w_witness2
  case hc =>
    refine L2.walk_ofE (l := PySem.Challenge.rw_grovehouse_k06_plain_meaning) (n := 63) (k := 40) (x := "script") (CX := GH.CXA (PySem.Challenge.rw_grovehouse_k06_plain_meaning).prog) rfl (by decide) (by kernel_rfl) ⟨rfl, by decide, by decide⟩ ?F (fun H s e s' z => GH.cxa_none H s e s' z)
    intro w mg fa h Y G hmg0
    obtain ⟨K, KX, c⟩ := Y
    have hmg : mg ("law" : PySem.Str) = some (.ref fa) := by
      have e : (HandSHeadRun.topDef (OpenLaw.row PySem.Challenge.rw_grovehouse_k06_plain_meaning).prog 26).name = ("law" : PySem.Str) := by kernel_rfl
      rw [← e]
      exact hmg0
    obtain ⟨fd, hb, hF⟩ := L06.facts (P := (PySem.Challenge.rw_grovehouse_k06_plain_meaning).prog) (w := w) KX G hmg c
    exact ⟨K, fd, _, KX, hb, fun H a ns hl hO hS => GH.sp_law hO hS (L06.law_true ns hl), hF⟩
