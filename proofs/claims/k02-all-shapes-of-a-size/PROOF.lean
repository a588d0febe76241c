import PyProof.Rows.All
import Wide.All
import OpenK.AllK
import Wide.FinOn
import HandS.ForMost
import HandS.Exc
import HandS.TryOnly
import HandS.ExcOwn
import HandS.WordsExc
import HandS.Defaults
import HandS.HeadHook1
import HandS.TupAny
import HandS.Style
import HandS.Conv
import HandS.Zip
import HandS.IsInst
import HandS.Flow
import HandS.DictTup
import HandS.TryMany
import HandS.Lambda
import HandS.DictComp
import HandS.Strs
import HandS.SetKeys
import HandS.SortKw
import HandS.ExcInit
import HandS.Nested
import HandS.HeadHook4
import KE.KeyNested
import HandS.Walk
import HandS.CallSlots
import PyProof.P3In
import PyProof.P3Eq
import KE.SortData
import HandS.HeadEnd
import KE.GoesMore
import HandS.Text
import HandS.Codes
import HandS.SetFor
import HandS.ExcIs
import HandS.ExcField
import HandS.RaiseMore
import HandS.EndTab
import HandS.HeadWalk
import HandS.TupLen
import KE.KDictCopyH
import KE.KDictDisplayH
import KE.SortKeyHeap
import PySem.Challenge.RW_grovehouse_k02_all_shapes_of_a_size
import KE.KStateDown
import Lean
import HandS.Base
import HandS.Call
import HandS.Ends
import HandS.More
import HandS.Words
import HandS.Head0
import HandS.Head1
import HandS.Head2
import HandS.HeadHook2
import HandS.HeadHook3
import KE.KNestM
set_option Elab.async false
set_option linter.all false
set_option maxRecDepth 100000
set_option maxHeartbeats 1000000
/-! Values without a heap for tuples and for lists that nobody writes; a small heap of own objects; how both lie in the abstract heap of the hand layer. -/
set_option autoImplicit false
namespace GH
open PySem PySem.Spec PyProof.Rows L2

/-- the world, for the hashes of keys -/
class TheWorld where
  w : World
variable [TheWorld]
def sOf (x : List Nat) : Str := ⟨x.toArray⟩
theorem sOf_inj {x y : List Nat} (h : sOf x = sOf y) : x = y := by
  have := congrArg (fun s : Str => s.cps.toList) h
  simpa [sOf] using this
theorem sOf_len (x : List Nat) : (sOf x).length = x.length := by simp [sOf, Str.length]

/-- a value: tuples and unwritten lists as they are, an object of the small heap by its place -/
inductive Val where
  | non | bl (b : Bool) | int (i : Int) | str (s : List Nat)
  | tup (l : List Val) | lst (l : List Val) | fz (l : List Val) | ref (a : Nat)
  deriving Inhabited

/-- an object that may be written -/
inductive Ob where
  | lst (l : List Val)
  | dic (l : List (Val × Val))
  | ins (c : List Nat) (fs : List (List Nat × Val))
  /-- the table of the code objects that a def's code made -/
  | tbl (q : List Nat)
  /-- a dict whose keys are tuples of any depth -/
  | dn (l : List (Val × Val))
  deriving Inhabited
abbrev Hv := List Ob
abbrev Loc := List (Option Val)

/-- the ghost: where the small heap's objects lie; what else is being written -/
structure Gh where
  m : List Addr
  r : List Addr
def Gh.own (g : Gh) (a : Addr) : Prop := a ∈ g.m ∨ a ∈ g.r

/-- a list that nobody writes at all: the script, a list at the top -/
def FzL (K : PySem.W.Frag) (H : Hp) (a : Addr) (xs : List V) : Prop := (∃ o, H a = some (.frz o (.lst xs))) ∨
  ∃ (o : Obj) (its : Array Value) (n : Nat), K.lookup a = some o ∧ o.cls = .type "list" ∧ o.dict = none ∧ o.data = .seq its n ∧ its.size ≤ sizeLine ∧ Vals xs its.toList
theorem FzL.imp {K : PySem.W.Frag} {H H' : Hp} {a : Addr} {xs : List V} (s : FzL K H a xs) (f : ∀ o, H a = some (.frz o (.lst xs)) → H' a = some (.frz o (.lst xs))) : FzL K H' a xs := s.elim (fun ⟨o, e⟩ => .inl ⟨o, f o e⟩) .inr
theorem FzL.sq {K : PySem.W.Frag} {H : Hp} {a : Addr} {xs : List V} (s : FzL K H a xs) : SqL K H a xs := s.elim (fun ⟨o, e⟩ => .inl (.inr ⟨o, e⟩)) .inr
mutual
def VR (K : PySem.W.Frag) (g : Gh) (H : Hp) : Val → V → Prop
  | .non, x => x = .non
  | .bl b, x => x = .bl b
  | .int i, x => x = .int i
  | .str s, x => x = .str (sOf s)
  | .tup l, x => ∃ a xs, x = .ref a ∧ SqT K H a xs ∧ VRs K g H l xs
  | .lst l, x => ∃ a xs, x = .ref a ∧ ¬ g.own a ∧ H a = some (.lst xs) ∧ VRs K g H l xs
  | .fz l, x => ∃ a xs, x = .ref a ∧ FzL K H a xs ∧ VRs K g H l xs
  | .ref i, x => ∃ a, x = .ref a ∧ g.m[i]? = some a
def VRs (K : PySem.W.Frag) (g : Gh) (H : Hp) : List Val → List V → Prop
  | [], xs => xs = []
  | v :: l, xs => ∃ x r, xs = x :: r ∧ VR K g H v x ∧ VRs K g H l r
end

def keyOf : Val → Option Key
  | .int i => some (.inl i)
  | .str s => some (.inr (sOf s))
  | _ => none
/-- a class by its name -/
abbrev clsA (K : PySem.W.Frag) (c : List Nat) : Addr := He.ga K (sOf c)
/-- the fields, by name -/
def FR (K : PySem.W.Frag) (g : Gh) (H : Hp) (fs : List (List Nat × Val)) (gs : List (Str × V)) : Prop :=
  gs.map (·.1) = fs.map (fun p => sOf p.1) ∧ VRs K g H (fs.map (·.2)) (gs.map (·.2))
def DR (K : PySem.W.Frag) (g : Gh) (H : Hp) (l : List (Val × Val)) (ks : List (Key × V)) : Prop :=
  l.map (fun p => keyOf p.1) = ks.map (fun q => some q.1) ∧ VRs K g H (l.map (·.2)) (ks.map (·.2))
/-- a table: its codes bear the name q and are nobody's -/
def qualL (q : List Nat) : Str := sOf q ++ ".<locals>." ++ "<lambda>"
abbrev tabA (K : PySem.W.Frag) (q : List Nat) : Addr := (He.cT K (sOf q, none)).2
def TabG (g : Gh) (H : Hp) (P : Addr) (q : Str) : Prop := ∃ ps : Array Value, H P = some (.tbl ps) ∧ TriplesOk ps.toList ∧ ∀ (pos : Pos) (cv : Value), codeAmong pos ps.toList = some cv → ∃ c, cv = .ref c ∧ H c = some (LamX.CodeO c q) ∧ ¬ g.own c
mutual
/-- a value as a key -/
def keyN : Val → Option NestedKey
  | .non => some .none
  | .bl b => some (.num (if b then 1 else 0))
  | .int i => some (.num i)
  | .str s => some (.text (sOf s))
  | .tup l => (keysN l).map .tup
  | _ => none
def keysN : List Val → Option (List NestedKey)
  | [] => some []
  | v :: l => (keyN v).bind fun k => (keysN l).map fun ks => k :: ks
end
/-- a key, where its tuple lies, the value -/
abbrev NE := NestedKey × Addr × Value
def entN (x : NE) : DictEntry := ⟨x.1.hash TheWorld.w, .ref x.2.1, x.2.2⟩
/-- the dict at a has just these entries -/
abbrev NX := Obj × List NE
/-- the dict at a is this object, with just these entries -/
def DN (a : Addr) (xs : NX) : HO := .ext fun h => ∃ es ep, h.get? a = some xs.1 ∧ xs.1.ExactDict ∧ xs.1.data = .dict es ep ∧ es.toList = xs.2.map entN
structure NP (a : Addr) (l : List (Val × Val)) (xs : List NE) (ys : List V) : Prop where
  sys : (a == sysModules) = false
  sz : l.length ≤ sizeLine
  ks : l.map (fun p => keyN p.1) = xs.map fun x => some x.1
  dp : ∀ x ∈ xs, x.1.depth ≤ 8
  nd : (xs.map (·.1)).Nodup
  vs : Vals ys (xs.map (·.2.2))
def OR (K : PySem.W.Frag) (g : Gh) (H : Hp) (a : Addr) : Ob → Prop
  | .lst l => ∃ xs, H a = some (.lst xs) ∧ VRs K g H l xs
  | .dic l => ∃ ks, H a = some (.dK ks) ∧ DR K g H l ks
  | .ins c fs => ∃ dx gs, H a = some (.ins (clsA K c) dx gs) ∧ FR K g H fs gs
  | .tbl q => a = tabA K q ∧ TabG g H a (qualL q)
  | .dn l => ∃ xs ys, H a = some (DN a xs) ∧ NP a l xs.2 ys ∧ VRs K g H (l.map (·.1)) (xs.2.map fun x => V.ref x.2.1) ∧ VRs K g H (l.map (·.2)) ys
/-- what may be written, by ours -/
def MutX (a : Addr) : HO → Prop
  | .lst _ | .dK _ | .dT _ | .set _ _ | .ins _ _ _ => True
  | .ext φ => ∃ xs, HO.ext φ = DN a xs
  | _ => False
structure HR (K : PySem.W.Frag) (g : Gh) (H : Hp) (h : Hv) : Prop where
  len : g.m.length = h.length
  nd : g.m.Nodup
  dis : ∀ a ∈ g.m, a ∉ g.r
  al : ∀ a ∈ g.r, ∃ o, H a = some o ∧ MutX a o
  obj : ∀ (i : Nat) o a, h[i]? = some o → g.m[i]? = some a → OR K g H a o
structure SR (K : PySem.W.Frag) (g : Gh) (H : Hp) (l : Loc) (σ : L2.St) : Prop where
  len : l.length = σ.length
  at_ : ∀ (i : Nat) v, l[i]? = some (some v) → ∃ x, σ[i]? = some (some x) ∧ VR K g H v x
/-- nothing lies there, or a table -/
def Fre (H : Hp) (b : Addr) : Prop := ∀ o, H b = some o → ∃ ps, o = .tbl ps
theorem fre_none {H : Hp} {b : Addr} (e : H b = none) : Fre H b := fun o q => by rw [e] at q; cases q
structure ExtS (g : Gh) (H : Hp) (g' : Gh) (H' : Hp) : Prop where
  m : ∃ t, g'.m = g.m ++ t ∧ ∀ b ∈ t, Fre H b
  r : ∃ u, g'.r = u ++ g.r ∧ ∀ b ∈ u, Fre H b
  keepN : ∀ b o, H b = some o → (∀ ps, o ≠ .tbl ps) → ¬ g.own b → H' b = some o
structure Ext (g : Gh) (H : Hp) (g' : Gh) (H' : Hp) : Prop where
  m : ∃ t, g'.m = g.m ++ t ∧ ∀ b ∈ t, Fre H b
  r : g'.r = g.r
  keepN : ∀ b o, H b = some o → (∀ ps, o ≠ .tbl ps) → b ∉ g.m → H' b = some o
  there : ∀ b o, H b = some o → (∀ ps, o ≠ .tbl ps) → ∃ o', H' b = some o' ∧ ∀ ps, o' ≠ .tbl ps

section
variable {K : PySem.W.Frag} {g g' g'' : Gh} {H H' H'' : Hp} {h : Hv}
theorem Ext.keep (E : Ext g H g' H') (b : Addr) (o : HO) (e : H b = some o) (hn : b ∉ g.m) (nt : ∀ ps, o ≠ .tbl ps := by intro ps z; cases z) : H' b = some o := E.keepN b o e nt hn
theorem ExtS.keep (E : ExtS g H g' H') (b : Addr) (o : HO) (e : H b = some o) (hn : ¬ g.own b) (nt : ∀ ps, o ≠ .tbl ps := by intro ps z; cases z) : H' b = some o := E.keepN b o e nt hn
theorem Ext.refl : Ext g H g H := ⟨⟨[], by simp, by simp⟩, rfl, fun _ _ e _ _ => e, fun b o e n => ⟨o, e, n⟩⟩
theorem Ext.trans (a : Ext g H g' H') (b : Ext g' H' g'' H'') : Ext g H g'' H'' := by
  obtain ⟨t, e1, n1⟩ := a.m
  obtain ⟨u, e2, n2⟩ := b.m
  have key : ∀ c ∈ u, Fre H c := fun c hc o q => by
    by_cases z : ∃ ps, o = .tbl ps
    · exact z
    · obtain ⟨o', e', n'⟩ := a.there c o q fun ps z' => z ⟨ps, z'⟩
      obtain ⟨ps, z'⟩ := n2 c hc o' e'
      exact (n' ps z').elim
  refine ⟨⟨t ++ u, by rw [e2, e1, List.append_assoc], fun c hc => ?_⟩, b.r.trans a.r, fun c o e nt hn => ?_, fun c o e nt => ?_⟩
  · rcases List.mem_append.mp hc with hc | hc
    · exact n1 c hc
    · exact key c hc
  · refine b.keepN c o (a.keepN c o e nt hn) nt ?_
    rw [e1]
    intro hc
    rcases List.mem_append.mp hc with hc | hc
    · exact hn hc
    · obtain ⟨ps, z⟩ := n1 c hc o e
      exact nt ps z
  · obtain ⟨o', e', n'⟩ := a.there c o e nt
    exact b.there c o' e' n'
theorem HR.own_there (R : HR K g H h) {a : Addr} (ha : g.own a) : ∃ o, H a = some o := by
  rcases ha with ha | ha
  · obtain ⟨i, hi, e⟩ := List.getElem_of_mem ha
    have hi' : i < h.length := by rw [← R.len]; exact hi
    have q := R.obj i h[i] a (by simp [hi']) (by rw [← e]; simp [hi])
    cases ho : h[i] with
    | lst l => rw [ho] at q; obtain ⟨_, e, _⟩ := q; exact ⟨_, e⟩
    | dic l => rw [ho] at q; obtain ⟨_, e, _⟩ := q; exact ⟨_, e⟩
    | ins c f => rw [ho] at q; obtain ⟨_, _, e, _⟩ := q; exact ⟨_, e⟩
    | tbl t => rw [ho] at q; obtain ⟨_, _, e, _⟩ := q; exact ⟨_, e⟩
    | dn l => rw [ho] at q; obtain ⟨_, _, e, _⟩ := q; exact ⟨_, e⟩
  · obtain ⟨o, e, _⟩ := R.al a ha
    exact ⟨_, e⟩
theorem HR.fresh (R : HR K g H h) {a : Addr} (ha : H a = none) : ¬ g.own a := fun q => by
  obtain ⟨o, e⟩ := R.own_there q
  rw [ha] at e; cases e
/-- what is owned is no tuple and not locked -/
theorem HR.kind (R : HR K g H h) {a : Addr} (ha : a ∈ g.m) : (∃ xs, H a = some (.lst xs)) ∨ (∃ ks, H a = some (.dK ks)) ∨ (∃ C dx gs, H a = some (.ins C dx gs)) ∨ (∃ ps, H a = some (.tbl ps)) ∨ ∃ xs, H a = some (DN a xs) := by
  obtain ⟨i, hi, e⟩ := List.getElem_of_mem ha
  have hi' : i < h.length := by rw [← R.len]; exact hi
  have q := R.obj i h[i] a (by simp [hi']) (by rw [← e]; simp [hi])
  cases ho : h[i] with
  | lst l => rw [ho] at q; obtain ⟨_, e, _⟩ := q; exact .inl ⟨_, e⟩
  | dic l => rw [ho] at q; obtain ⟨_, e, _⟩ := q; exact .inr (.inl ⟨_, e⟩)
  | ins c f => rw [ho] at q; obtain ⟨_, _, e, _⟩ := q; exact .inr (.inr (.inl ⟨_, _, _, e⟩))
  | tbl t => rw [ho] at q; obtain ⟨_, _, e, _⟩ := q; exact .inr (.inr (.inr (.inl ⟨_, e⟩)))
  | dn l => rw [ho] at q; obtain ⟨_, _, e, _⟩ := q; exact .inr (.inr (.inr (.inr ⟨_, e⟩)))
theorem HR.not_tup (R : HR K g H h) {a : Addr} {xs : List V} (e : Rd H a (.tup xs)) : a ∉ g.m := fun ha => by
  rcases R.kind ha with ⟨_, q⟩ | ⟨_, q⟩ | ⟨_, _, _, q⟩ | ⟨_, q⟩ | ⟨_, q⟩ <;> rcases e with e | ⟨_, e⟩ <;> rw [q] at e <;> cases e
theorem Ext.s (E : Ext g H g' H') : ExtS g H g' H' := ⟨E.m, ⟨[], by rw [E.r]; rfl, by simp⟩, fun b o e nt hn => E.keepN b o e nt fun z => hn (.inl z)⟩
theorem HR.not_own (R : HR K g H h) {a : Addr} {o : HO} (e : H a = some o) (n : ¬ MutX a o) (nt : ∀ ps, o ≠ .tbl ps := by intro ps z; cases z) : ¬ g.own a := fun ha => by
  rcases ha with ha | ha
  · rcases R.kind ha with ⟨_, q⟩ | ⟨_, q⟩ | ⟨_, _, _, q⟩ | ⟨_, q⟩ | ⟨_, q⟩
    · rw [q] at e; cases e; exact n trivial
    · rw [q] at e; cases e; exact n trivial
    · rw [q] at e; cases e; exact n trivial
    · rw [q] at e; cases e; exact nt _ rfl
    · rw [q] at e; cases e; exact n ⟨_, rfl⟩
  · obtain ⟨o', e', m⟩ := R.al a ha
    rw [e] at e'; cases e'
    exact n m
theorem HR.tup_own (R : HR K g H h) {a : Addr} {xs : List V} (e : Rd H a (.tup xs)) : ¬ g.own a := by
  rcases e with e | ⟨_, e⟩
  · exact R.not_own e (fun z => z)
  · exact R.not_own e (fun z => z)
theorem ExtS.rd (E : ExtS g H g' H') {a : Addr} {u : HO} (ha : ¬ g.own a) (e : Rd H a u) (nt : ∀ ps, u ≠ .tbl ps := by intro ps z; cases z) : Rd H' a u := by
  rcases e with e | ⟨o, e⟩
  · exact .inl (E.keep _ _ e ha nt)
  · exact .inr ⟨o, E.keep _ _ e ha⟩
theorem ExtS.nown (E : ExtS g H g' H') {a : Addr} {o : HO} (ha : ¬ g.own a) (e : H a = some o) (nt : ∀ ps, o ≠ .tbl ps := by intro ps z; cases z) : ¬ g'.own a := fun q => by
  obtain ⟨t, em, n⟩ := E.m
  obtain ⟨u, er, n2⟩ := E.r
  rcases q with q | q
  · rw [em] at q
    rcases List.mem_append.mp q with q | q
    · exact ha (.inl q)
    · obtain ⟨ps, z⟩ := n a q o e; exact nt ps z
  · rw [er] at q
    rcases List.mem_append.mp q with q | q
    · obtain ⟨ps, z⟩ := n2 a q o e; exact nt ps z
    · exact ha (.inr q)
theorem Ext.rd (E : Ext g H g' H') {a : Addr} {u : HO} (ha : a ∉ g.m) (e : Rd H a u) (nt : ∀ ps, u ≠ .tbl ps := by intro ps z; cases z) : Rd H' a u := by
  rcases e with e | ⟨o, e⟩
  · exact .inl (E.keep _ _ e ha nt)
  · exact .inr ⟨o, E.keep _ _ e ha⟩
theorem Ext.nown (E : Ext g H g' H') {a : Addr} {o : HO} (ha : ¬ g.own a) (e : H a = some o) (nt : ∀ ps, o ≠ .tbl ps := by intro ps z; cases z) : ¬ g'.own a := fun q => by
  obtain ⟨t, em, n⟩ := E.m
  rcases q with q | q
  · rw [em] at q
    rcases List.mem_append.mp q with q | q
    · exact ha (.inl q)
    · obtain ⟨ps, z⟩ := n a q o e; exact nt ps z
  · rw [E.r] at q
    exact ha (.inr q)
theorem Rd.some {a : Addr} {u : HO} (e : Rd H a u) : ∃ o, H a = some o := by
  rcases e with e | ⟨o, e⟩
  · exact ⟨_, e⟩
  · exact ⟨_, e⟩
/-- the codes stay, the table stays -/
theorem TabG.stay {g g' : Gh} {H H' : Hp} {P : Addr} {q : Str} (t : TabG g H P q) (hP : ∀ ps, H P = some (.tbl ps) → H' P = some (.tbl ps)) (hc : ∀ c (o : HO), H c = some o → (∀ ps, o ≠ .tbl ps) → ¬ g.own c → H' c = some o ∧ ¬ g'.own c) : TabG g' H' P q := by
  obtain ⟨ps, e, t1, t2⟩ := t
  refine ⟨ps, hP ps e, t1, fun pos cv z => ?_⟩
  obtain ⟨c, e1, e2, e3⟩ := t2 pos cv z
  obtain ⟨a, b⟩ := hc c _ e2 (fun ps => LamX.codeO_ne ps) e3
  exact ⟨c, e1, a, b⟩
mutual
theorem VR.extS (R : HR K g H h) (E : ExtS g H g' H') : ∀ {v : Val} {x : V}, VR K g H v x → VR K g' H' v x
  | .non, x, q => by simpa only [VR] using q
  | .bl b, x, q => by simpa only [VR] using q
  | .int i, x, q => by simpa only [VR] using q
  | .str s, x, q => by simpa only [VR] using q
  | .tup l, x, q => by
    simp only [VR] at q ⊢
    obtain ⟨a, xs, e, s, r⟩ := q
    refine ⟨a, xs, e, ?_, VRs.extS R E r⟩
    rcases s with s | s
    · exact .inl (E.rd (R.tup_own s) s)
    · exact .inr s
  | .lst l, x, q => by
    simp only [VR] at q ⊢
    obtain ⟨a, xs, e, n, s, r⟩ := q
    exact ⟨a, xs, e, E.nown n s, E.keep _ _ s n, VRs.extS R E r⟩
  | .fz l, x, q => by
    simp only [VR] at q ⊢
    obtain ⟨a, xs, e, s, r⟩ := q
    refine ⟨a, xs, e, s.imp fun o s => E.keep _ _ s (R.not_own s fun z => z), VRs.extS R E r⟩
  | .ref i, x, q => by
    simp only [VR] at q ⊢
    obtain ⟨a, e, n⟩ := q
    obtain ⟨t, em, _⟩ := E.m
    refine ⟨a, e, ?_⟩
    rw [em, List.getElem?_append_left (List.getElem?_eq_some_iff.mp n).1]
    exact n
theorem VRs.extS (R : HR K g H h) (E : ExtS g H g' H') : ∀ {l : List Val} {xs : List V}, VRs K g H l xs → VRs K g' H' l xs
  | [], xs, q => by simpa only [VRs] using q
  | v :: l, xs, q => by
    simp only [VRs] at q ⊢
    obtain ⟨x, r, e, q1, q2⟩ := q
    exact ⟨x, r, e, VR.extS R E q1, VRs.extS R E q2⟩
end
theorem VR.ext (R : HR K g H h) (E : Ext g H g' H') {v : Val} {x : V} (q : VR K g H v x) : VR K g' H' v x := VR.extS R E.s q
theorem VRs.ext (R : HR K g H h) (E : Ext g H g' H') {l : List Val} {xs : List V} (q : VRs K g H l xs) : VRs K g' H' l xs := VRs.extS R E.s q
theorem SR.ext {l : Loc} {σ : L2.St} (S : SR K g H l σ) (R : HR K g H h) (E : Ext g H g' H') : SR K g' H' l σ :=
  ⟨S.len, fun i v e => by obtain ⟨x, e1, e2⟩ := S.at_ i v e; exact ⟨x, e1, e2.ext R E⟩⟩
end
section
variable {K : PySem.W.Frag} {g : Gh} {H : Hp}
theorem VRs.length : ∀ {l : List Val} {xs : List V}, VRs K g H l xs → l.length = xs.length
  | [], xs, q => by simp only [VRs] at q; subst q; rfl
  | v :: l, xs, q => by
    simp only [VRs] at q
    obtain ⟨x, r, e, _, q2⟩ := q
    subst e
    simp [VRs.length q2]
theorem VRs.get : ∀ {l : List Val} {xs : List V} {i : Nat} {v : Val}, VRs K g H l xs → l[i]? = some v → ∃ x, xs[i]? = some x ∧ VR K g H v x
  | [], xs, i, v, q, e => by simp at e
  | w :: l, xs, i, v, q, e => by
    simp only [VRs] at q
    obtain ⟨x, r, rfl, q1, q2⟩ := q
    cases i with
    | zero => simp at e; subst e; exact ⟨x, by simp, q1⟩
    | succ i =>
      obtain ⟨y, e1, e2⟩ := VRs.get (i := i) q2 (by simpa using e)
      exact ⟨y, by simpa using e1, e2⟩
theorem VRs.get' : ∀ {l : List Val} {xs : List V} {i : Nat} {x : V}, VRs K g H l xs → xs[i]? = some x → ∃ v, l[i]? = some v ∧ VR K g H v x
  | [], xs, i, v, q, e => by simp only [VRs] at q; subst q; simp at e
  | w :: l, xs, i, v, q, e => by
    simp only [VRs] at q
    obtain ⟨x, r, rfl, q1, q2⟩ := q
    cases i with
    | zero => simp at e; subst e; exact ⟨w, by simp, q1⟩
    | succ i =>
      obtain ⟨y, e1, e2⟩ := VRs.get' (i := i) q2 (by simpa using e)
      exact ⟨y, by simpa using e1, e2⟩
theorem VRs.append : ∀ {l l' : List Val} {xs xs' : List V}, VRs K g H l xs → VRs K g H l' xs' → VRs K g H (l ++ l') (xs ++ xs')
  | [], l', xs, xs', q, q' => by simp only [VRs] at q; subst q; simpa using q'
  | v :: l, l', xs, xs', q, q' => by
    simp only [VRs] at q
    obtain ⟨x, r, rfl, q1, q2⟩ := q
    show VRs K g H (v :: (l ++ l')) (x :: (r ++ xs'))
    simp only [VRs]
    exact ⟨x, _, rfl, q1, VRs.append q2 q'⟩
theorem VRs.nil : VRs K g H [] [] := by simp only [VRs]
theorem VRs.cons {v : Val} {x : V} {l : List Val} {xs : List V} (a : VR K g H v x) (b : VRs K g H l xs) : VRs K g H (v :: l) (x :: xs) := by
  simp only [VRs]; exact ⟨x, xs, rfl, a, b⟩
theorem VRs.one {v : Val} {x : V} (a : VR K g H v x) : VRs K g H [v] [x] := .cons a .nil
theorem VRs.take : ∀ {l : List Val} {xs : List V} (n : Nat), VRs K g H l xs → VRs K g H (l.take n) (xs.take n)
  | l, xs, 0, q => by simpa using VRs.nil
  | [], xs, n + 1, q => by simp only [VRs] at q; subst q; simpa using VRs.nil
  | v :: l, xs, n + 1, q => by
    simp only [VRs] at q
    obtain ⟨x, r, rfl, q1, q2⟩ := q
    exact .cons q1 (VRs.take n q2)
theorem VRs.drop : ∀ {l : List Val} {xs : List V} (n : Nat), VRs K g H l xs → VRs K g H (l.drop n) (xs.drop n)
  | l, xs, 0, q => by simpa using q
  | [], xs, n + 1, q => by simp only [VRs] at q; subst q; simpa using VRs.nil
  | v :: l, xs, n + 1, q => by
    simp only [VRs] at q
    obtain ⟨x, r, rfl, q1, q2⟩ := q
    simpa using VRs.drop n q2
theorem VRs.reverse : ∀ {l : List Val} {xs : List V}, VRs K g H l xs → VRs K g H l.reverse xs.reverse
  | [], xs, q => by simp only [VRs] at q; subst q; simpa using VRs.nil
  | v :: l, xs, q => by
    simp only [VRs] at q
    obtain ⟨x, r, rfl, q1, q2⟩ := q
    simp only [List.reverse_cons]
    exact (VRs.reverse q2).append (.one q1)
theorem VRs.set : ∀ {l : List Val} {xs : List V} (i : Nat) {v : Val} {x : V}, VRs K g H l xs → VR K g H v x → VRs K g H (l.set i v) (xs.set i x)
  | [], xs, i, v, x, q, p => by simp only [VRs] at q; subst q; simpa using VRs.nil
  | w :: l, xs, 0, v, x, q, p => by
    simp only [VRs] at q
    obtain ⟨y, r, rfl, q1, q2⟩ := q
    exact .cons p q2
  | w :: l, xs, i + 1, v, x, q, p => by
    simp only [VRs] at q
    obtain ⟨y, r, rfl, q1, q2⟩ := q
    exact .cons q1 (VRs.set i q2 p)
end
end GH
set_option Elab.async false
set_option linter.all false
set_option maxRecDepth 100000
set_option maxHeartbeats 1000000
set_option autoImplicit false
/-! What a piece of text yields, as a function over values and the small heap; the judgements. -/
namespace GH
open PySem PySem.Spec PyProof.Rows L2
variable [TheWorld]

structure Ex where
  c : List Nat
  fs : List (List Nat × Val)
inductive Res (α : Type) where
  | ok (a : α) (h : Hv)
  | exc (e : Ex) (h : Hv)
  | fail
def Res.bind {α β : Type} (r : Res α) (k : α → Hv → Res β) : Res β := match r with
  | .ok a h => k a h
  | .exc e h => .exc e h
  | .fail => .fail
@[simp] theorem Res.bind_ok {α β : Type} (a : α) (h : Hv) (k : α → Hv → Res β) : (Res.ok a h).bind k = k a h := rfl
@[simp] theorem Res.bind_exc {α β : Type} (e : Ex) (h : Hv) (k : α → Hv → Res β) : (Res.exc e h : Res α).bind k = .exc e h := rfl
@[simp] theorem Res.bind_fail {α β : Type} (k : α → Hv → Res β) : (Res.fail : Res α).bind k = .fail := rfl
abbrev DenG (α : Type) := Loc → Hv → Res α
abbrev Den := DenG Val
def ER (K : PySem.W.Frag) (g : Gh) (H : Hp) (e : Ex) (cls : Value) (d : Option Addr) : Prop := cls = .ref (clsA K e.c) ∧ match e.fs with
  | [] => d = none
  | p :: r => ∃ a gs, d = some a ∧ ¬ g.own a ∧ H a = some (.xd gs) ∧ FR K g H (p :: r) gs

def After {α β : Type} (K : PySem.W.Frag) (W : WX) (rel : Gh → Hp → α → β → Prop) (σ : L2.St) (g : Gh) (H : Hp) (Q : β → Hp → Prop) : Res α → Prop
  | .ok v h' => ∀ g' H' x, Ext g H g' H' → HR K g' H' h' → rel g' H' v x → Q x H'
  | .exc e h' => ∀ g' H' cls d, Ext g H g' H' → HR K g' H' h' → ER K g' H' e cls d → W cls d σ H'
  | .fail => False
section
variable {α β : Type} {K : PySem.W.Frag} {W : WX} {rel : Gh → Hp → α → β → Prop} {σ : L2.St} {g g1 : Gh} {H H1 : Hp} {Q : β → Hp → Prop}
theorem After.ext {r : Res α} (E : Ext g H g1 H1) (A : After K W rel σ g H Q r) : After K W rel σ g1 H1 Q r := by
  cases r with
  | ok v h => exact fun g' H' x E' => A g' H' x (E.trans E')
  | exc e h => exact fun g' H' c d E' => A g' H' c d (E.trans E')
  | fail => exact A
def tG (K : PySem.W.Frag) (W : WX) (rel : Gh → Hp → α → β → Prop) (d : DenG α) : L2.St → Hp → (β → Hp → Prop) → Prop :=
  fun σ H Q => ∃ g l h, SR K g H l σ ∧ HR K g H h ∧ After K W rel σ g H Q (d l h)
end
abbrev vr (K : PySem.W.Frag) : Gh → Hp → Val → V → Prop := fun g H v x => VR K g H v x
abbrev vrs (K : PySem.W.Frag) : Gh → Hp → List Val → List V → Prop := fun g H v x => VRs K g H v x
abbrev br : Gh → Hp → Bool → Bool → Prop := fun _ _ a b => a = b
/-- an expression yields what d says -/
def GE (X : Cx) (W : WX) (e : Expr) (d : Den) : Prop := PE X e (tG X.K W (vr X.K) d)
def GA (X : Cx) (W : WX) (es : List Expr) (d : DenG (List Val)) : Prop := PA X es (tG X.K W (vrs X.K) d)
def GT (X : Cx) (W : WX) (e : Expr) (d : DenG Bool) : Prop := PT X e (tG X.K W br d)
def GW (X : Cx) (W : WX) (e : Expr) (d : DenG Bool) : Prop := PW X e (tG X.K W br d)

section
variable {α β γ δ : Type} {K : PySem.W.Frag} {W : WX} {σ : L2.St} {g : Gh} {H : Hp} {l : Loc} {h : Hv}
/-- the first part of a bind -/
theorem tG_of {rel : Gh → Hp → α → β → Prop} {rel2 : Gh → Hp → γ → δ → Prop} {d : DenG α} {k : α → Hv → Res γ} {Q : δ → Hp → Prop} {R : β → Hp → Prop} (S : SR K g H l σ) (hr : HR K g H h) (A : After K W rel2 σ g H Q ((d l h).bind k))
    (hk : ∀ v h1 g1 H1 x, Ext g H g1 H1 → SR K g1 H1 l σ → HR K g1 H1 h1 → rel g1 H1 v x → After K W rel2 σ g1 H1 Q (k v h1) → R x H1) : tG K W rel d σ H R := by
  refine ⟨g, l, h, S, hr, ?_⟩
  cases e : d l h with
  | ok v h1 =>
    rw [e] at A
    intro g' H' x E R' r
    exact hk v h1 g' H' x E (S.ext hr E) R' r (After.ext E A)
  | exc x h1 =>
    rw [e] at A
    exact A
  | fail =>
    rw [e] at A
    exact A
end
theorem PE.imp {X : Cx} {e : Expr} {t t' : TE} (p : PE X e t) (h : ∀ σ H Q, t' σ H Q → t σ H Q) : PE X e t' := ⟨fun pins s σ H Q I q => p.run pins s σ H Q I (h σ H Q q)⟩
theorem PA.imp {X : Cx} {e : List Expr} {t t' : TA} (p : PA X e t) (h : ∀ σ H Q, t' σ H Q → t σ H Q) : PA X e t' := ⟨fun pos pins s σ H Q I q => p.run pos pins s σ H Q I (h σ H Q q)⟩
theorem PT.imp {X : Cx} {e : Expr} {t t' : TT} (p : PT X e t) (h : ∀ σ H Q, t' σ H Q → t σ H Q) : PT X e t' := ⟨fun pins s σ H Q I q => p.run pins s σ H Q I (h σ H Q q)⟩
theorem PW.imp {X : Cx} {e : Expr} {t t' : TT} (p : PW X e t) (h : ∀ σ H Q, t' σ H Q → t σ H Q) : PW X e t' := ⟨fun w pins s σ H Q I q => p.run w pins s σ H Q I (h σ H Q q)⟩
theorem PS.imp {X : Cx} {e : Stmt} {t t' : TS} (p : PS X e t) (h : ∀ D σ H, t' D σ H → t D σ H) : PS X e t' := ⟨fun pins s σ H D I q => p.run pins s σ H D I (h D σ H q)⟩
theorem PSs.imp {X : Cx} {e : List Stmt} {t t' : TS} (p : PSs X e t) (h : ∀ D σ H, t' D σ H → t D σ H) : PSs X e t' := ⟨fun pins s σ H D I q => p.run pins s σ H D I (h D σ H q)⟩

/-! ### names, constants -/
def dVar (i : Nat) : Den := fun l h => match l[i]? with
  | some (some v) => .ok v h
  | _ => .fail
def dC (v : Val) : Den := fun _ h => .ok v h
section
variable {X : Cx} {W : WX}
theorem ge_var (i : Nat) {x : Str} {pos : Pos} (hN : X.N[i]? = some x := by rfl) (hv : Vis X.env.scope x := by first | exact Or.inl rfl | exact Or.inr (Or.inl rfl) | exact Or.inr (Or.inr rfl)) (hd : (x == ("__debug__" : Str)) = false := by decide +kernel)
    (hcd : (x == ("__classdict__" : Str)) = false := by decide +kernel) : GE X W (.Name x pos) (dVar i) := by
  refine PE.imp (pe_var hN hv hd hcd) fun σ H Q ⟨g, l, h, S, R, A⟩ => ?_
  unfold dVar at A
  split at A
  · rename_i v e
    obtain ⟨x, e1, r⟩ := S.at_ i v e
    exact ⟨x, e1, A g H x Ext.refl R r⟩
  · exact A.elim
theorem ge_c {e : Expr} {v : Val} {x : V} (p : PE X e (tC x)) (r : ∀ g H, VR X.K g H v x) : GE X W e (dC v) :=
  PE.imp p fun σ H Q ⟨g, l, h, S, R, A⟩ => A g H x Ext.refl R (r g H)
theorem ge_int {i : Int} {j pos} : GE X W (.Constant (.int i) j pos) (dC (.int i)) := ge_c pe_int fun _ _ => by simp only [VR]
theorem ge_bl {b : Bool} {j pos} : GE X W (.Constant (.bool b) j pos) (dC (.bl b)) := ge_c pe_bl fun _ _ => by simp only [VR]
theorem ge_non {j pos} : GE X W (.Constant .none j pos) (dC .non) := ge_c pe_non fun _ _ => by simp only [VR]
theorem ge_str (s : List Nat) {x : Str} {j pos} (e : x = sOf s := by decide +kernel) : GE X W (.Constant (.str x) j pos) (dC (.str s)) := by
  subst e
  exact ge_c pe_str fun _ _ => by simp only [VR]

/-! ### arguments, displays -/
def dNil : DenG (List Val) := fun _ h => .ok [] h
def dCons (d : Den) (r : DenG (List Val)) : DenG (List Val) := fun l h => (d l h).bind fun v h1 => (r l h1).bind fun vs h2 => .ok (v :: vs) h2
theorem ga_nil : GA X W [] dNil := PA.imp pa_nil fun σ H Q ⟨g, l, h, S, R, A⟩ => A g H [] Ext.refl R VRs.nil
theorem ga_cons {e : Expr} {es : List Expr} {d : Den} {r : DenG (List Val)} (ha : GE X W e d) (hr : GA X W es r) (hs : starEach (e :: es) X.env = (false, eval e X.env) :: starEach es X.env := by rfl) : GA X W (e :: es) (dCons d r) := by
  refine PA.imp (pa_cons ha hr hs) fun σ H Q ⟨g, l, h, S, R, A⟩ => ?_
  refine tG_of S R A fun v h1 g1 H1 x E S1 R1 r1 A1 => ?_
  refine tG_of S1 R1 A1 fun vs h2 g2 H2 xs E2 S2 R2 r2 A2 => ?_
  exact A2 g2 H2 (x :: xs) Ext.refl R2 (.cons (r1.ext R1 E2) r2)
/-- a new object that is not tracked by us: a tuple, a list nobody writes -/
theorem HR.grow {K : PySem.W.Frag} {g : Gh} {H : Hp} {h : Hv} {p : Addr} {o : HO} (R : HR K g H h) (np : H p = none) : Ext g H g (upd H p o) ∧ HR K g (upd H p o) h := by
  have E : Ext g H g (upd H p o) := ⟨⟨[], by simp, by simp⟩, rfl, fun b u e _ hb => by rw [upd_ne (ne_of_none e np)]; exact e, fun b u e nt => ⟨u, by rw [upd_ne (ne_of_none e np)]; exact e, nt⟩⟩
  refine ⟨E, R.len, R.nd, R.dis, fun a ha => ?_, fun i o' a e1 e2 => ?_⟩
  · obtain ⟨ob, e, mu⟩ := R.al a ha
    exact ⟨ob, by rw [upd_ne (ne_of_none e np)]; exact e, mu⟩
  · have q := R.obj i o' a e1 e2
    cases o' with
    | lst l => obtain ⟨xs, e, r⟩ := q; exact ⟨xs, by rw [upd_ne (ne_of_none e np)]; exact e, r.ext R E⟩
    | dic l => obtain ⟨xs, e, r⟩ := q; exact ⟨xs, by rw [upd_ne (ne_of_none e np)]; exact e, r.1, r.2.ext R E⟩
    | ins c f => obtain ⟨dx, gs, e, r⟩ := q; exact ⟨dx, gs, by rw [upd_ne (ne_of_none e np)]; exact e, r.1, r.2.ext R E⟩
    | dn l => obtain ⟨xs, ys, e, p, r1, r2⟩ := q; exact ⟨xs, ys, by rw [upd_ne (ne_of_none e np)]; exact e, p, r1.ext R E, r2.ext R E⟩
    | tbl t => exact ⟨q.1, q.2.stay (fun ps e => by rw [upd_ne (ne_of_none e np)]; exact e) (fun c o e nt hn => ⟨by rw [upd_ne (ne_of_none e np)]; exact e, E.nown hn e nt⟩)⟩
/-- a new object that is tracked by us -/
theorem HR.push {K : PySem.W.Frag} {g : Gh} {H : Hp} {h : Hv} {p : Addr} {o : HO} {ob : Ob} (R : HR K g H h) (np : H p = none)
    (ok : OR K ⟨g.m ++ [p], g.r⟩ (upd H p o) p ob) : Ext g H ⟨g.m ++ [p], g.r⟩ (upd H p o) ∧ HR K ⟨g.m ++ [p], g.r⟩ (upd H p o) (h ++ [ob]) := by
  have E : Ext g H ⟨g.m ++ [p], g.r⟩ (upd H p o) := ⟨⟨[p], rfl, fun b hb => by rw [List.mem_singleton.mp hb]; exact fre_none np⟩, rfl, fun b u e _ hb => by rw [upd_ne (ne_of_none e np)]; exact e, fun b u e nt => ⟨u, by rw [upd_ne (ne_of_none e np)]; exact e, nt⟩⟩
  have hp : ¬ g.own p := R.fresh np
  refine ⟨E, by simp [R.len], ?_, ?_, fun a ha => ?_, fun i o' a e1 e2 => ?_⟩
  · show (g.m ++ [p]).Nodup
    refine List.nodup_append.mpr ⟨R.nd, by simp, fun a ha b hb => ?_⟩
    rw [List.mem_singleton.mp hb]
    rintro rfl
    exact hp (.inl ha)
  · show ∀ a ∈ g.m ++ [p], a ∉ g.r
    intro a ha
    rcases List.mem_append.mp ha with ha | ha
    · exact R.dis a ha
    · rw [List.mem_singleton.mp ha]
      exact fun z => hp (.inr z)
  · obtain ⟨ob, e, mu⟩ := R.al a ha
    exact ⟨ob, by rw [upd_ne (ne_of_none e np)]; exact e, mu⟩
  · have e2 : (g.m ++ [p])[i]? = some a := e2
    by_cases hi : i < h.length
    · rw [List.getElem?_append_left hi] at e1
      rw [List.getElem?_append_left (by rw [R.len]; exact hi)] at e2
      have q := R.obj i o' a e1 e2
      cases o' with
      | lst l => obtain ⟨xs, e, r⟩ := q; exact ⟨xs, by rw [upd_ne (ne_of_none e np)]; exact e, r.ext R E⟩
      | dic l => obtain ⟨xs, e, r⟩ := q; exact ⟨xs, by rw [upd_ne (ne_of_none e np)]; exact e, r.1, r.2.ext R E⟩
      | ins c f => obtain ⟨dx, gs, e, r⟩ := q; exact ⟨dx, gs, by rw [upd_ne (ne_of_none e np)]; exact e, r.1, r.2.ext R E⟩
      | dn l => obtain ⟨xs, ys, e, p, r1, r2⟩ := q; exact ⟨xs, ys, by rw [upd_ne (ne_of_none e np)]; exact e, p, r1.ext R E, r2.ext R E⟩
      | tbl t => exact ⟨q.1, q.2.stay (fun ps e => by rw [upd_ne (ne_of_none e np)]; exact e) (fun c o e nt hn => ⟨by rw [upd_ne (ne_of_none e np)]; exact e, E.nown hn e nt⟩)⟩
    · have hi' : i = h.length := by
        have := (List.getElem?_eq_some_iff.mp e1).1
        simp at this
        omega
      subst hi'
      rw [List.getElem?_append_right (Nat.le_refl _)] at e1
      rw [List.getElem?_append_right (by rw [R.len]; exact Nat.le_refl _)] at e2
      simp at e1
      rw [R.len] at e2
      simp at e2
      subst e1 e2
      exact ok
def lineN : Nat := 16777216
theorem line_ok {n : Nat} (h : n ≤ lineN) : n ≤ sizeLine := by rw [sizeLine_eq]; exact h
theorem line_lt {n : Nat} (h : n < lineN) : n < sizeLine := by rw [sizeLine_eq]; exact h
/-- the result stands in a new tuple -/
def mkTup (vs : List Val) (h : Hv) : Res Val := if vs.length ≤ lineN then .ok (.tup vs) h else .fail
def mkLst (vs : List Val) (h : Hv) : Res Val := if vs.length ≤ lineN then .ok (.lst vs) h else .fail
def mkRef (vs : List Val) (h : Hv) : Res Val := if vs.length ≤ lineN then .ok (.ref h.length) (h ++ [.lst vs]) else .fail
section
variable {K : PySem.W.Frag} {σ : L2.St} {g : Gh} {H : Hp} {h : Hv} {Q : VK} {vs : List Val} {xs : List V}
theorem mkTup_ok (R : HR K g H h) (r : VRs K g H vs xs) (A : After K W (vr K) σ g H Q (mkTup vs h)) : xs.length ≤ sizeLine ∧ ∀ p, H p = none → Q (.ref p) (upd H p (.tup xs)) := by
  unfold mkTup at A
  split at A
  · rename_i hl
    refine ⟨by rw [← r.length]; exact line_ok hl, fun p np => ?_⟩
    obtain ⟨E, R1⟩ := R.grow (o := .tup xs) np
    refine A g _ (.ref p) E R1 ?_
    simp only [VR]
    exact ⟨p, xs, rfl, SqT.of upd_same, r.ext R E⟩
  · exact A.elim
theorem mkLst_ok (R : HR K g H h) (r : VRs K g H vs xs) (A : After K W (vr K) σ g H Q (mkLst vs h)) : xs.length ≤ sizeLine ∧ ∀ p, H p = none → Q (.ref p) (upd H p (.lst xs)) := by
  unfold mkLst at A
  split at A
  · rename_i hl
    refine ⟨by rw [← r.length]; exact line_ok hl, fun p np => ?_⟩
    obtain ⟨E, R1⟩ := R.grow (o := .lst xs) np
    refine A g _ (.ref p) E R1 ?_
    simp only [VR]
    exact ⟨p, xs, rfl, R.fresh np, upd_same, r.ext R E⟩
  · exact A.elim
theorem mkRef_ok (R : HR K g H h) (r : VRs K g H vs xs) (A : After K W (vr K) σ g H Q (mkRef vs h)) : xs.length ≤ sizeLine ∧ ∀ p, H p = none → Q (.ref p) (upd H p (.lst xs)) := by
  unfold mkRef at A
  split at A
  · rename_i hl
    refine ⟨by rw [← r.length]; exact line_ok hl, fun p np => ?_⟩
    have E : Ext g H ⟨g.m ++ [p], g.r⟩ (upd H p (.lst xs)) := ⟨⟨[p], rfl, fun b hb => by rw [List.mem_singleton.mp hb]; exact fre_none np⟩, rfl, fun b u e _ hb => by rw [upd_ne (ne_of_none e np)]; exact e, fun b u e nt => ⟨u, by rw [upd_ne (ne_of_none e np)]; exact e, nt⟩⟩
    obtain ⟨_, R1⟩ := R.push (o := .lst xs) (ob := .lst vs) np ⟨xs, upd_same, r.ext R E⟩
    refine A _ _ (.ref p) E R1 ?_
    simp only [VR]
    refine ⟨p, rfl, ?_⟩
    show (g.m ++ [p])[h.length]? = some p
    rw [← R.len]
    simp
  · exact A.elim
end
def dTup (r : DenG (List Val)) : Den := fun l h => (r l h).bind mkTup
def dLst (r : DenG (List Val)) : Den := fun l h => (r l h).bind mkLst
def dLstM (r : DenG (List Val)) : Den := fun l h => (r l h).bind mkRef
theorem ge_tup {es : List Expr} {r : DenG (List Val)} {k : Nat} {pos : Pos} (ha : GA X W es r) : GE X W (.Tuple es k pos) (dTup r) := by
  refine PE.imp (pe_tup ha) fun σ H Q ⟨g, l, h, S, R, A⟩ => ?_
  exact tG_of S R A fun v h1 g1 H1 x E S1 R1 r1 A1 => mkTup_ok R1 r1 A1
theorem ge_lst {es : List Expr} {r : DenG (List Val)} {pos : Pos} (ha : GA X W es r) : GE X W (.List es pos) (dLst r) := by
  refine PE.imp (pe_lst ha) fun σ H Q ⟨g, l, h, S, R, A⟩ => ?_
  exact tG_of S R A fun v h1 g1 H1 x E S1 R1 r1 A1 => mkLst_ok R1 r1 A1
theorem ge_lstM {es : List Expr} {r : DenG (List Val)} {pos : Pos} (ha : GA X W es r) : GE X W (.List es pos) (dLstM r) := by
  refine PE.imp (pe_lst ha) fun σ H Q ⟨g, l, h, S, R, A⟩ => ?_
  exact tG_of S R A fun v h1 g1 H1 x E S1 R1 r1 A1 => mkRef_ok R1 r1 A1

/-! ### operators: by values -/
/-- f on values, when the operands stand, is r -/
def OpG (X : Cx) (op : Value → Value → Sem Value) (f : Val → Val → Hv → Res Val) : Prop := ∃ r : R2, OpR X op r ∧
  ∀ (W : WX) (g : Gh) (H : Hp) (h : Hv) (σ : L2.St) (v u : Val) (x y : V) (Q : VK), HR X.K g H h → VR X.K g H v x → VR X.K g H u y → After X.K W (vr X.K) σ g H Q (f v u h) → r x y H Q
def dBin (f : Val → Val → Hv → Res Val) (da db : Den) : Den := fun l h => (da l h).bind fun v h1 => (db l h1).bind fun u h2 => f v u h2
theorem tBin {X : Cx} {W : WX} {f : Val → Val → Hv → Res Val} {da db : Den} {r : R2}
    (hr : ∀ (W : WX) (g : Gh) (H : Hp) (h : Hv) (σ : L2.St) (v u : Val) (x y : V) (Q : VK), HR X.K g H h → VR X.K g H v x → VR X.K g H u y → After X.K W (vr X.K) σ g H Q (f v u h) → r x y H Q)
    (σ : L2.St) (H : Hp) (Q : VK) (z : tG X.K W (vr X.K) (dBin f da db) σ H Q) : tOp r (tG X.K W (vr X.K) da) (tG X.K W (vr X.K) db) σ H Q := by
  obtain ⟨g, l, h, S, R, A⟩ := z
  refine tG_of S R A fun v h1 g1 H1 x E S1 R1 r1 A1 => ?_
  refine tG_of S1 R1 A1 fun u h2 g2 H2 y E2 S2 R2 r2 A2 => ?_
  exact hr W g2 H2 h2 σ v u x y Q R2 (r1.ext R1 E2) r2 A2
theorem ge_bin {op : Operator} {f : Val → Val → Hv → Res Val} {a b : Expr} {da db : Den} {pos : Pos} (ho : OpG X (binaryOp op) f) (ha : GE X W a da) (hb : GE X W b db) : GE X W (.BinOp a op b pos) (dBin f da db) := by
  obtain ⟨r, ho, hr⟩ := ho
  exact PE.imp (pe_op ho ha hb) fun σ H Q z => tBin hr σ H Q z
theorem ge_cmp {op : CmpOp} {f : Val → Val → Hv → Res Val} {a b : Expr} {da db : Den} {pos : Pos} (ho : OpG X (compareOp op) f) (ha : GE X W a da) (hb : GE X W b db) (hm : behindInMarks op b = false := by first | exact nomark _ | rfl) : GE X W (.Compare a [op] [b] pos) (dBin f da db) := by
  obtain ⟨r, ho, hr⟩ := ho
  exact PE.imp (pe_cmpR ho ha hb hm) fun σ H Q z => tBin hr σ H Q z
def resB (r : Res Val) : Res Bool := r.bind fun v h => match v with
  | .bl b => .ok b h
  | _ => .fail
/-- an expression that yields a bool, as a test -/
def dB (d : Den) : DenG Bool := fun l h => resB (d l h)
theorem tB_of {d : Den} {σ : L2.St} {H : Hp} {Q : Bool → Hp → Prop} (z : tG X.K W br (dB d) σ H Q) : tG X.K W (vr X.K) d σ H fun x H1 => ∃ c, x = .bl c ∧ Q c H1 := by
  obtain ⟨g, l, h, S, R, A⟩ := z
  refine tG_of S R (A : After X.K W br σ g H Q ((d l h).bind _)) fun v h1 g1 H1 x E S1 R1 r1 A1 => ?_
  cases v with
  | bl b =>
    simp only [VR] at r1
    exact ⟨b, r1, A1 g1 H1 b Ext.refl R1 rfl⟩
  | _ => exact A1.elim
theorem gt_cmp {op : CmpOp} {f : Val → Val → Hv → Res Val} {a b : Expr} {da db : Den} {pos : Pos} (ho : OpG X (compareOp op) f) (ha : GE X W a da) (hb : GE X W b db) (hm : behindInMarks op b = false := by first | exact nomark _ | rfl) : GT X W (.Compare a [op] [b] pos) (dB (dBin f da db)) := by
  obtain ⟨r, ho, hr⟩ := ho
  exact PT.imp (pt_cmpR ho ha hb hm) fun σ H Q z => tBin hr σ H _ (tB_of z)
theorem gt_val {e : Expr} {d : Den} (he : GE X W e d) (hs : ∀ whole, isTrue e X.env whole = (do let v ← whole; standAt e.pos; holding [v] (truthy v)) := by intro _; rfl) : GT X W e (dB d) :=
  PT.imp (pt_val he hs) fun σ H Q z => tB_of z

/-! ### and, or, not; if-else -/
def dAnd (a b : DenG Bool) : DenG Bool := fun l h => (a l h).bind fun c h1 => if c then b l h1 else .ok false h1
def dOr (a b : DenG Bool) : DenG Bool := fun l h => (a l h).bind fun c h1 => if c then .ok true h1 else b l h1
def dNot (a : DenG Bool) : DenG Bool := fun l h => (a l h).bind fun c h1 => .ok (!c) h1
theorem gw_and1 {a : Expr} {d : DenG Bool} {pos : Pos} (ha : GT X W a d) : GW X W (.BoolOp .And [a] pos) d := pw_and1 ha
theorem gw_or1 {a : Expr} {d : DenG Bool} {pos : Pos} (ha : GT X W a d) : GW X W (.BoolOp .Or [a] pos) d := pw_or1 ha
theorem gw_and {a b : Expr} {rest : List Expr} {da db : DenG Bool} {pos : Pos} (ha : GT X W a da) (hb : GW X W (.BoolOp .And (b :: rest) pos) db) : GW X W (.BoolOp .And (a :: b :: rest) pos) (dAnd da db) := by
  refine PW.imp (pw_and ha hb) fun σ H Q ⟨g, l, h, S, R, A⟩ => ?_
  refine tG_of S R A fun v h1 g1 H1 x E S1 R1 r1 A1 => ?_
  obtain rfl : v = x := r1
  cases v with
  | true => exact ⟨g1, l, h1, S1, R1, A1⟩
  | false => exact A1 g1 H1 false Ext.refl R1 rfl
theorem gw_or {a b : Expr} {rest : List Expr} {da db : DenG Bool} {pos : Pos} (ha : GT X W a da) (hb : GW X W (.BoolOp .Or (b :: rest) pos) db) : GW X W (.BoolOp .Or (a :: b :: rest) pos) (dOr da db) := by
  refine PW.imp (pw_or ha hb) fun σ H Q ⟨g, l, h, S, R, A⟩ => ?_
  refine tG_of S R A fun v h1 g1 H1 x E S1 R1 r1 A1 => ?_
  obtain rfl : v = x := r1
  cases v with
  | true => exact A1 g1 H1 true Ext.refl R1 rfl
  | false => exact ⟨g1, l, h1, S1, R1, A1⟩
theorem GW.pt {e : Expr} {d : DenG Bool} (h : GW X W e d) : GT X W e d := PW.pt h
theorem gt_not {a : Expr} {d : DenG Bool} {pos : Pos} (ha : GT X W a d) : GT X W (.UnaryOp .Not a pos) (dNot d) := by
  refine PT.imp (pt_not ha) fun σ H Q ⟨g, l, h, S, R, A⟩ => ?_
  refine tG_of S R A fun v h1 g1 H1 x E S1 R1 r1 A1 => ?_
  obtain rfl : v = x := r1
  exact A1 g1 H1 (!v) Ext.refl R1 rfl
def dIf (c : DenG Bool) (a b : Den) : Den := fun l h => (c l h).bind fun t h1 => if t then a l h1 else b l h1
theorem ge_if {c a b : Expr} {dc : DenG Bool} {da db : Den} {pos : Pos} (hc : GT X W c dc) (ha : GE X W a da) (hb : GE X W b db) : GE X W (.IfExp c a b pos) (dIf dc da db) := by
  refine PE.imp (pe_ifExp hc ha hb) fun σ H Q ⟨g, l, h, S, R, A⟩ => ?_
  refine tG_of S R A fun v h1 g1 H1 x E S1 R1 r1 A1 => ?_
  obtain rfl : v = x := r1
  cases v with
  | true => exact ⟨g1, l, h1, S1, R1, A1⟩
  | false => exact ⟨g1, l, h1, S1, R1, A1⟩
/-- and, or, not as values (bools all) -/
def dAndV (a b : Den) : Den := fun l h => (a l h).bind fun v h1 => match v with
  | .bl c => if c then b l h1 else .ok (.bl false) h1
  | _ => .fail
def dOrV (a b : Den) : Den := fun l h => (a l h).bind fun v h1 => match v with
  | .bl c => if c then .ok (.bl true) h1 else b l h1
  | _ => .fail
def dNotV (a : Den) : Den := fun l h => (a l h).bind fun v h1 => match v with
  | .bl c => .ok (.bl (!c)) h1
  | _ => .fail
theorem ge_one {op} {a : Expr} {d : Den} {pos : Pos} (ha : GE X W a d) : GE X W (.BoolOp op [a] pos) d := pe_one ha
theorem ge_and {a b : Expr} {rest : List Expr} {da db : Den} {pos : Pos} (ha : GE X W a da) (hb : GE X W (.BoolOp .And (b :: rest) pos) db) : GE X W (.BoolOp .And (a :: b :: rest) pos) (dAndV da db) := by
  refine PE.imp (pe_and ha hb) fun σ H Q ⟨g, l, h, S, R, A⟩ => ?_
  refine tG_of S R A fun v h1 g1 H1 x E S1 R1 r1 A1 => ?_
  cases v with
  | bl c =>
    simp only [VR] at r1
    refine ⟨c, r1, ?_⟩
    cases c with
    | true => exact ⟨g1, l, h1, S1, R1, A1⟩
    | false => exact A1 g1 H1 (.bl false) Ext.refl R1 (by simp only [VR])
  | _ => exact A1.elim
theorem ge_or {a b : Expr} {rest : List Expr} {da db : Den} {pos : Pos} (ha : GE X W a da) (hb : GE X W (.BoolOp .Or (b :: rest) pos) db) : GE X W (.BoolOp .Or (a :: b :: rest) pos) (dOrV da db) := by
  refine PE.imp (pe_or ha hb) fun σ H Q ⟨g, l, h, S, R, A⟩ => ?_
  refine tG_of S R A fun v h1 g1 H1 x E S1 R1 r1 A1 => ?_
  cases v with
  | bl c =>
    simp only [VR] at r1
    refine ⟨c, r1, ?_⟩
    cases c with
    | true => exact A1 g1 H1 (.bl true) Ext.refl R1 (by simp only [VR])
    | false => exact ⟨g1, l, h1, S1, R1, A1⟩
  | _ => exact A1.elim
theorem ge_not {a : Expr} {d : Den} {pos : Pos} (ha : GE X W a d) : GE X W (.UnaryOp .Not a pos) (dNotV d) := by
  refine PE.imp (pe_not ha) fun σ H Q ⟨g, l, h, S, R, A⟩ => ?_
  refine tG_of S R A fun v h1 g1 H1 x E S1 R1 r1 A1 => ?_
  cases v with
  | bl c =>
    simp only [VR] at r1
    exact ⟨c, r1, A1 g1 H1 _ Ext.refl R1 (by simp only [VR])⟩
  | _ => exact A1.elim
end

/-! ### statements -/
inductive SRes where
  | nx (l : Loc) (h : Hv) | rt (v : Val) (h : Hv) | bk (l : Loc) (h : Hv) | ct (l : Loc) (h : Hv) | exc (e : Ex) (l : Loc) (h : Hv) | fail
abbrev Stm := Loc → Hv → SRes
def AfterS (K : PySem.W.Frag) (W : WX) (g : Gh) (H : Hp) (D : Ends) : SRes → Prop
  | .nx l' h' => ∀ g' H' σ', Ext g H g' H' → HR K g' H' h' → SR K g' H' l' σ' → D.nx σ' H'
  | .bk l' h' => ∀ g' H' σ', Ext g H g' H' → HR K g' H' h' → SR K g' H' l' σ' → D.bk σ' H'
  | .ct l' h' => ∀ g' H' σ', Ext g H g' H' → HR K g' H' h' → SR K g' H' l' σ' → D.ct σ' H'
  | .rt v h' => ∀ g' H' x, Ext g H g' H' → HR K g' H' h' → VR K g' H' v x → D.rt x H'
  | .exc e l' h' => ∀ g' H' σ' cls d, Ext g H g' H' → HR K g' H' h' → SR K g' H' l' σ' → ER K g' H' e cls d → W cls d σ' H'
  | .fail => False
theorem AfterS.ext {K : PySem.W.Frag} {W : WX} {g g1 : Gh} {H H1 : Hp} {D : Ends} {r : SRes} (E : Ext g H g1 H1) (A : AfterS K W g H D r) : AfterS K W g1 H1 D r := by
  cases r with
  | nx l h => exact fun g' H' x E' => A g' H' x (E.trans E')
  | bk l h => exact fun g' H' x E' => A g' H' x (E.trans E')
  | ct l h => exact fun g' H' x E' => A g' H' x (E.trans E')
  | rt l h => exact fun g' H' x E' => A g' H' x (E.trans E')
  | exc e l h => exact fun g' H' s c d E' => A g' H' s c d (E.trans E')
  | fail => exact A
def tS (K : PySem.W.Frag) (W : WX) (d : Stm) : TS := fun D σ H => ∃ g l h, SR K g H l σ ∧ HR K g H h ∧ AfterS K W g H D (d l h)
def GS (X : Cx) (W : WX) (st : Stmt) (d : Stm) : Prop := PS X st (tS X.K W d)
def GSs (X : Cx) (W : WX) (st : List Stmt) (d : Stm) : Prop := PSs X st (tS X.K W d)
/-- from an expression's result on -/
def Res.to {α : Type} (r : Res α) (l : Loc) (k : α → Hv → SRes) : SRes := match r with
  | .ok v h => k v h
  | .exc e h => .exc e l h
  | .fail => .fail
@[simp] theorem Res.to_ok {α : Type} (a : α) (h : Hv) (l : Loc) (k : α → Hv → SRes) : (Res.ok a h).to l k = k a h := rfl
@[simp] theorem Res.to_exc {α : Type} (e : Ex) (h : Hv) (l : Loc) (k : α → Hv → SRes) : (Res.exc e h : Res α).to l k = .exc e l h := rfl
@[simp] theorem Res.to_fail {α : Type} (l : Loc) (k : α → Hv → SRes) : (Res.fail : Res α).to l k = .fail := rfl
theorem tG_to {α β : Type} {K : PySem.W.Frag} {W : WX} {σ : L2.St} {g : Gh} {H : Hp} {l : Loc} {h : Hv} {rel : Gh → Hp → α → β → Prop} {d : DenG α} {k : α → Hv → SRes} {D : Ends} {R : β → Hp → Prop} (S : SR K g H l σ) (hr : HR K g H h) (A : AfterS K W g H D ((d l h).to l k))
    (hk : ∀ v h1 g1 H1 x, Ext g H g1 H1 → SR K g1 H1 l σ → HR K g1 H1 h1 → rel g1 H1 v x → AfterS K W g1 H1 D (k v h1) → R x H1) : tG K W rel d σ H R := by
  refine ⟨g, l, h, S, hr, ?_⟩
  cases e : d l h with
  | ok v h1 =>
    rw [e] at A
    intro g' H' x E R' r
    exact hk v h1 g' H' x E (S.ext hr E) R' r (AfterS.ext E A)
  | exc x h1 =>
    rw [e] at A
    intro g' H' c d' E R' r
    exact A g' H' σ c d' E R' (S.ext hr E) r
  | fail =>
    rw [e] at A
    exact A
def sNext : Stm := fun l h => .nx l h
def SRes.andThen (r : SRes) (k : Stm) : SRes := match r with
  | .nx l h => k l h
  | r => r
@[simp] theorem SRes.andThen_nx (l : Loc) (h : Hv) (k : Stm) : (SRes.nx l h).andThen k = k l h := rfl
@[simp] theorem SRes.andThen_rt (v : Val) (h : Hv) (k : Stm) : (SRes.rt v h).andThen k = .rt v h := rfl
@[simp] theorem SRes.andThen_bk (l : Loc) (h : Hv) (k : Stm) : (SRes.bk l h).andThen k = .bk l h := rfl
@[simp] theorem SRes.andThen_ct (l : Loc) (h : Hv) (k : Stm) : (SRes.ct l h).andThen k = .ct l h := rfl
@[simp] theorem SRes.andThen_exc (e : Ex) (l : Loc) (h : Hv) (k : Stm) : (SRes.exc e l h).andThen k = .exc e l h := rfl
@[simp] theorem SRes.andThen_fail (k : Stm) : SRes.fail.andThen k = .fail := rfl
def sSeq (a b : Stm) : Stm := fun l h => (a l h).andThen b
def sRet (d : Den) : Stm := fun l h => (d l h).to l .rt
def sRetN : Stm := fun _ h => .rt .non h
def sExpr (d : Den) : Stm := fun l h => (d l h).to l fun _ h1 => .nx l h1
def sIf (c : DenG Bool) (a b : Stm) : Stm := fun l h => (c l h).to l fun t h1 => if t then a l h1 else b l h1
def sBreak : Stm := fun l h => .bk l h
def sCont : Stm := fun l h => .ct l h
section
variable {X : Cx} {W : WX}
theorem gs_nil : GSs X W [] sNext := PSs.imp pss_nil fun D σ H ⟨g, l, h, S, R, A⟩ => A g H σ Ext.refl R S
theorem gs_cons {st : Stmt} {rest : List Stmt} {a b : Stm} (h1 : GS X W st a) (h2 : GSs X W rest b) : GSs X W (st :: rest) (sSeq a b) := by
  refine PSs.imp (pss_cons h1 h2) fun D σ H ⟨g, l, h, S, R, A⟩ => ⟨g, l, h, S, R, ?_⟩
  unfold sSeq at A
  cases e : a l h with
  | nx l1 h1 =>
    rw [e] at A
    exact fun g' H' σ' E R' S' => ⟨g', l1, h1, S', R', AfterS.ext E A⟩
  | bk l1 h1 => rw [e] at A; exact A
  | ct l1 h1 => rw [e] at A; exact A
  | rt l1 h1 => rw [e] at A; exact A
  | exc x l1 h1 => rw [e] at A; exact A
  | fail => rw [e] at A; exact A
theorem gs_one {st : Stmt} {a : Stm} (h1 : GS X W st a) : GSs X W [st] a := pss_one h1
theorem gs_ret {e : Expr} {d : Den} {pos : Pos} (he : GE X W e d) : GS X W (.Return (some e) pos) (sRet d) := by
  refine PS.imp (ps_ret he) fun D σ H ⟨g, l, h, S, R, A⟩ => ?_
  exact tG_to S R A fun v h1 g1 H1 x E S1 R1 r1 A1 => A1 g1 H1 x Ext.refl R1 r1
theorem gs_retN {pos : Pos} : GS X W (.Return none pos) sRetN := PS.imp ps_retN fun D σ H ⟨g, l, h, S, R, A⟩ => A g H .non Ext.refl R (by simp only [VR])
theorem gs_expr {e : Expr} {d : Den} {pos : Pos} (he : GE X W e d) (hs : swapsWith e none pos.line X.env = pure false := by rfl) : GS X W (.Expr e pos) (sExpr d) := by
  refine PS.imp (ps_expr he hs) fun D σ H ⟨g, l, h, S, R, A⟩ => ?_
  exact tG_to S R A fun v h1 g1 H1 x E S1 R1 r1 A1 => A1 g1 H1 σ Ext.refl R1 S1
theorem gs_if {c : Expr} {a b : List Stmt} {dc : DenG Bool} {da db : Stm} {pos : Pos} (hc : GT X W c dc) (ha : GSs X W a da) (hb : GSs X W b db) : GS X W (.If c a b pos) (sIf dc da db) := by
  refine PS.imp (ps_if hc ha hb) fun D σ H ⟨g, l, h, S, R, A⟩ => ?_
  refine tG_to S R A fun v h1 g1 H1 x E S1 R1 r1 A1 => ?_
  obtain rfl : v = x := r1
  cases v with
  | true => exact ⟨g1, l, h1, S1, R1, A1⟩
  | false => exact ⟨g1, l, h1, S1, R1, A1⟩
theorem gs_pass {pos : Pos} : GS X W (.Pass pos) sNext := PS.imp ps_pass fun D σ H ⟨g, l, h, S, R, A⟩ => A g H σ Ext.refl R S
theorem gs_break {pos : Pos} : GS X W (.Break pos) sBreak := PS.imp ps_break fun D σ H ⟨g, l, h, S, R, A⟩ => A g H σ Ext.refl R S
theorem gs_continue {pos : Pos} : GS X W (.Continue pos) sCont := PS.imp ps_continue fun D σ H ⟨g, l, h, S, R, A⟩ => A g H σ Ext.refl R S

/-! ### targets -/
inductive TRes where
  | ok (l : Loc) (h : Hv) | exc (e : Ex) (l : Loc) (h : Hv) | fail
abbrev Tg := Val → Loc → Hv → TRes
abbrev Tgs := List Val → Loc → Hv → TRes
def AfterT (K : PySem.W.Frag) (W : WX) (g : Gh) (H : Hp) (Q : L2.St → Hp → Prop) : TRes → Prop
  | .ok l' h' => ∀ g' H' σ', Ext g H g' H' → HR K g' H' h' → SR K g' H' l' σ' → Q σ' H'
  | .exc e l' h' => ∀ g' H' σ' cls d, Ext g H g' H' → HR K g' H' h' → SR K g' H' l' σ' → ER K g' H' e cls d → W cls d σ' H'
  | .fail => False
theorem AfterT.ext {K : PySem.W.Frag} {W : WX} {g g1 : Gh} {H H1 : Hp} {D : L2.St → Hp → Prop} {r : TRes} (E : Ext g H g1 H1) (A : AfterT K W g H D r) : AfterT K W g1 H1 D r := by
  cases r with
  | ok l h => exact fun g' H' x E' => A g' H' x (E.trans E')
  | exc e l h => exact fun g' H' s c d E' => A g' H' s c d (E.trans E')
  | fail => exact A
def tT (K : PySem.W.Frag) (W : WX) (d : Tg) : TG := fun x σ H Q => ∃ g l h v, SR K g H l σ ∧ HR K g H h ∧ VR K g H v x ∧ AfterT K W g H Q (d v l h)
def tTs (K : PySem.W.Frag) (W : WX) (d : Tgs) : TGs := fun x σ H Q => ∃ g l h v, SR K g H l σ ∧ HR K g H h ∧ VRs K g H v x ∧ AfterT K W g H Q (d v l h)
def GG (X : Cx) (W : WX) (tg : Expr) (d : Tg) : Prop := PG X tg (tT X.K W d)
def GGs (X : Cx) (W : WX) (tg : List Expr) (d : Tgs) : Prop := PGs X tg (tTs X.K W d)
theorem PG.imp {X : Cx} {e : Expr} {t t' : TG} (p : PG X e t) (h : ∀ x σ H Q, t' x σ H Q → t x σ H Q) : PG X e t' := ⟨fun pins s σ H v u Q I r q => p.run pins s σ H v u Q I r (h v σ H Q q)⟩
theorem PGs.imp {X : Cx} {e : List Expr} {t t' : TGs} (p : PGs X e t) (h : ∀ x σ H Q, t' x σ H Q → t x σ H Q) : PGs X e t' := ⟨fun pins s σ H v u Q I r q => p.run pins s σ H v u Q I r (h v σ H Q q)⟩
def gName (i : Nat) : Tg := fun v l h => .ok (l.set i (some v)) h
theorem SR.set {K : PySem.W.Frag} {g : Gh} {H : Hp} {l : Loc} {σ : L2.St} {v : Val} {x : V} (S : SR K g H l σ) (i : Nat) (r : VR K g H v x) : SR K g H (l.set i (some v)) (σ.set i (some x)) := by
  refine ⟨by simp [S.len], fun j u e => ?_⟩
  by_cases hj : i = j
  · subst hj
    have hi : i < l.length := by
      have := (List.getElem?_eq_some_iff.mp e).1
      simpa using this
    rw [List.getElem?_set_self hi] at e
    cases e
    exact ⟨x, by rw [List.getElem?_set_self (by rw [← S.len]; exact hi)], r⟩
  · rw [List.getElem?_set_ne hj] at e
    obtain ⟨y, e1, e2⟩ := S.at_ j u e
    exact ⟨y, by rw [List.getElem?_set_ne hj]; exact e1, e2⟩
theorem gg_name (i : Nat) {x : Str} {pos : Pos} (hN : X.N.Nodup) (hi : X.N[i]? = some x := by rfl) (hx : L2.Loc X.env.scope x := by first | exact Or.inl rfl | exact Or.inr rfl) (hf : X.fn x = true ∨ X.env.scope.names.lookup x = some .local := by first | exact .inl rfl | exact .inr rfl) : GG X W (.Name x pos) (gName i) := by
  refine PG.imp (pg_name hN hi hx hf) fun y σ H Q ⟨g, l, h, v, S, R, r, A⟩ => ?_
  exact A g H _ Ext.refl R (S.set i r)
def gsNil : Tgs := fun vs l h => match vs with
  | [] => .ok l h
  | _ => .fail
def TRes.bind (r : TRes) (k : Loc → Hv → TRes) : TRes := match r with
  | .ok l h => k l h
  | .exc e l h => .exc e l h
  | .fail => .fail
@[simp] theorem TRes.bind_ok (l : Loc) (h : Hv) (k : Loc → Hv → TRes) : (TRes.ok l h).bind k = k l h := rfl
@[simp] theorem TRes.bind_exc (e : Ex) (l : Loc) (h : Hv) (k : Loc → Hv → TRes) : (TRes.exc e l h).bind k = .exc e l h := rfl
@[simp] theorem TRes.bind_fail (k : Loc → Hv → TRes) : TRes.fail.bind k = .fail := rfl
def gsCons (t : Tg) (u : Tgs) : Tgs := fun vs l h => match vs with
  | v :: r => (t v l h).bind fun l1 h1 => u r l1 h1
  | [] => .fail
theorem ggs_nil : GGs X W [] gsNil := by
  refine PGs.imp pgs_nil fun y σ H Q ⟨g, l, h, v, S, R, r, A⟩ => ?_
  cases v with
  | nil =>
    simp only [VRs] at r
    exact ⟨r, A g H σ Ext.refl R S⟩
  | cons v vs => exact A.elim
theorem ggs_cons {e : Expr} {es : List Expr} {t : Tg} {u : Tgs} (h1 : GG X W e t) (h2 : GGs X W es u)
    (hs : (assignEach (e :: es) X.env).map (·.2) = assign e X.env :: (assignEach es X.env).map (·.2) := by rfl) : GGs X W (e :: es) (gsCons t u) := by
  refine PGs.imp (pgs_cons h1 h2 hs) fun y σ H Q ⟨g, l, h, v, S, R, r, A⟩ => ?_
  cases v with
  | nil => exact A.elim
  | cons v vs =>
    simp only [VRs] at r
    obtain ⟨x, r', rfl, q1, q2⟩ := r
    refine ⟨x, r', rfl, g, l, h, v, S, R, q1, ?_⟩
    simp only [gsCons] at A
    cases e : t v l h with
    | ok l1 h1 =>
      rw [e] at A
      exact fun g' H' σ' E R' S' => ⟨g', l1, h1, vs, S', R', q2.ext R E, AfterT.ext E A⟩
    | exc x l1 h1 => rw [e] at A; exact A
    | fail => rw [e] at A; exact A
def gTup (n : Nat) (t : Tgs) : Tg := fun v l h => match v with
  | .tup vs => if vs.length = n then t vs l h else .fail
  | _ => .fail
theorem gg_tup {es : List Expr} {k : Nat} {t : Tgs} {n : Nat} {pos : Pos} (hc : X.calm = true) (h : GGs X W es t)
    (hn : (assignEach es X.env).length = n := by rfl) (hst : (assignEach es X.env).findIdx? (·.1) = none := by rfl) : GG X W (.Tuple es k pos) (gTup n t) := by
  refine PG.imp (pg_tup hc h hn hst) fun y σ H Q ⟨g, l, h, v, S, R, r, A⟩ => ?_
  cases v with
  | tup vs =>
    simp only [VR] at r
    obtain ⟨a, xs, rfl, q1, q2⟩ := r
    unfold gTup at A
    simp only at A
    split at A
    · rename_i hl
      exact ⟨a, xs, rfl, q1, by rw [← q2.length]; exact hl, g, l, h, vs, S, R, q2, A⟩
    · exact A.elim
  | _ => exact A.elim
def TRes.s (r : TRes) : SRes := match r with
  | .ok l h => .nx l h
  | .exc e l h => .exc e l h
  | .fail => .fail
@[simp] theorem TRes.s_ok (l : Loc) (h : Hv) : (TRes.ok l h).s = .nx l h := rfl
@[simp] theorem TRes.s_exc (e : Ex) (l : Loc) (h : Hv) : (TRes.exc e l h).s = .exc e l h := rfl
@[simp] theorem TRes.s_fail : TRes.fail.s = .fail := rfl
theorem AfterT.of_s {K : PySem.W.Frag} {W : WX} {g : Gh} {H : Hp} {D : Ends} {r : TRes} (A : AfterS K W g H D r.s) : AfterT K W g H D.nx r := by
  cases r <;> exact A
def sAsg (d : Den) (t : Tg) : Stm := fun l h => (d l h).to l fun v h1 => (t v l h1).s
theorem gs_asg {tg e : Expr} {d : Den} {t : Tg} {pos : Pos} (he : GE X W e d) (hg : GG X W tg t) (hs : swapsWithSole [tg] e pos.line X.env = pure false := by rfl) (hw : swappedStores [tg] e X.env = pure none := by rfl)
    (h1 : (assignEach [tg] X.env).map (·.2) = [assign tg X.env] := by rfl) : GS X W (.Assign [tg] e pos) (sAsg d t) := by
  refine PS.imp (ps_asg he hg hs hw h1) fun D σ H ⟨g, l, h, S, R, A⟩ => ?_
  exact tG_to S R A fun v h1 g1 H1 x E S1 R1 r1 A1 => ⟨g1, l, h1, v, S1, R1, r1, AfterT.of_s A1⟩
theorem gs_set (i : Nat) {x : Str} {e : Expr} {d : Den} {pos pos' : Pos} (he : GE X W e d) (hN : X.N.Nodup) (hi : X.N[i]? = some x := by rfl) (hx : L2.Loc X.env.scope x := by first | exact Or.inl rfl | exact Or.inr rfl)
    (hs : swapsWith e (some (.Name x pos')) pos.line X.env = pure false := by rfl) (hf : X.fn x = true ∨ X.env.scope.names.lookup x = some .local := by first | exact .inl rfl | exact .inr rfl) : GS X W (.Assign [.Name x pos'] e pos) (sAsg d (gName i)) := by
  refine PS.imp (ps_set hN hi hx he hs hf) fun D σ H ⟨g, l, h, S, R, A⟩ => ?_
  exact tG_to S R A fun v h1 g1 H1 x E S1 R1 r1 A1 => A1 g1 H1 _ Ext.refl R1 (S1.set i r1)
end
end GH
set_option Elab.async false
set_option linter.all false
set_option maxRecDepth 100000
set_option maxHeartbeats 1000000
set_option autoImplicit false
/-! dicts whose keys are tuples of any depth. -/
namespace GH
open PySem PySem.Spec PyProof.Rows L2
variable [TheWorld]
section
variable {X : Cx} {pins : List (Addr × Obj)} {σ : L2.St} {g : Gh} {H : Hp} {s : Shared}
mutual
/-- a value is the key that it says -/
theorem keyN_is (I : Inv X pins σ H s) : ∀ {v : Val} {k : NestedKey} {x : V} {u : Value}, keyN v = some k → VR X.K g H v x → RelV x u → NestedIs s.heap k u
  | .non, k, x, u, e, r, ru => by
    simp only [keyN, Option.some.injEq] at e
    simp only [VR] at r
    subst e r
    obtain rfl : u = Value.none := ru
    exact .none
  | .bl b, k, x, u, e, r, ru => by
    simp only [keyN, Option.some.injEq] at e
    simp only [VR] at r
    subst e r
    obtain rfl : u = Value.bool b := ru
    exact .bool rfl
  | .int i, k, x, u, e, r, ru => by
    simp only [keyN, Option.some.injEq] at e
    simp only [VR] at r
    subst e r
    obtain ⟨t, rfl⟩ := ru
    exact .int _ _
  | .str a, k, x, u, e, r, ru => by
    simp only [keyN, Option.some.injEq] at e
    simp only [VR] at r
    subst e r
    obtain ⟨t, rfl⟩ := ru
    exact .text _ _
  | .tup l, k, x, u, e, r, ru => by
    simp only [keyN] at e
    obtain ⟨ks, e1, rfl⟩ := Option.map_eq_some_iff.mp e
    simp only [VR] at r
    obtain ⟨a, xs, rfl, sq, rs⟩ := r
    obtain rfl : u = Value.ref a := ru
    obtain ⟨its, rv, ⟨o, h1, h2, n, h3⟩, _⟩ := I.tuple sq
    exact .tup h1 h2 h3 (keysN_is I e1 rs rv)
  | .lst l, k, x, u, e, r, ru => by simp [keyN] at e
  | .fz l, k, x, u, e, r, ru => by simp [keyN] at e
  | .ref i, k, x, u, e, r, ru => by simp [keyN] at e
theorem keysN_is (I : Inv X pins σ H s) : ∀ {l : List Val} {ks : List NestedKey} {xs : List V} {us : List Value}, keysN l = some ks → VRs X.K g H l xs → Vals xs us → NestedAll s.heap ks us
  | [], ks, xs, us, e, r, ru => by
    simp only [keysN, Option.some.injEq] at e
    simp only [VRs] at r
    subst e r
    cases ru
    exact .nil
  | v :: l, ks, xs, us, e, r, ru => by
    simp only [keysN] at e
    obtain ⟨k, e1, e2⟩ := Option.bind_eq_some_iff.mp e
    obtain ⟨kr, e3, rfl⟩ := Option.map_eq_some_iff.mp e2
    simp only [VRs] at r
    obtain ⟨x, xr, rfl, q1, q2⟩ := r
    cases ru with
    | cons r1 r2 => exact .cons (keyN_is I e1 q1 r1) (keysN_is I e3 q2 r2)
end
end
/-! ### entries, one by one -/
def NR (K : PySem.W.Frag) (g : Gh) (H : Hp) : List (Val × Val) → List NE → List V → Prop
  | [], [], [] => True
  | q :: l, x :: xs, y :: ys => (keyN q.1 = some x.1 ∧ x.1.depth ≤ 8 ∧ VR K g H q.1 (.ref x.2.1) ∧ VR K g H q.2 y ∧ RelV y x.2.2) ∧ NR K g H l xs ys
  | _, _, _ => False
section
variable {K : PySem.W.Frag} {g : Gh} {H : Hp} {a : Addr}
theorem NR.of : ∀ {l : List (Val × Val)} {xs : List NE} {ys : List V}, l.map (fun p => keyN p.1) = xs.map (fun x => some x.1) → (∀ x ∈ xs, x.1.depth ≤ 8) → Vals ys (xs.map (·.2.2)) → VRs K g H (l.map (·.1)) (xs.map fun x => V.ref x.2.1) → VRs K g H (l.map (·.2)) ys → NR K g H l xs ys
  | [], [], ys, _, _, rv, _, _ => by cases rv; exact True.intro
  | [], x :: xs, ys, e, _, _, _, _ => by simp at e
  | q :: l, [], ys, e, _, _, _, _ => by simp at e
  | q :: l, x :: xs, ys, e, d, rv, r1, r2 => by
    simp only [List.map_cons, List.cons.injEq] at e
    simp only [List.map_cons] at rv r1 r2
    cases rv with
    | cons v1 v2 =>
      simp only [VRs] at r1 r2
      obtain ⟨k, kr, z, a1, a2⟩ := r1
      injection z with z1 z2
      subst z1 z2
      obtain ⟨y, yr, z, b1, b2⟩ := r2
      injection z with z1 z2
      subst z1 z2
      exact ⟨⟨e.1, d x (List.mem_cons_self ..), a1, b1, v1⟩, NR.of e.2 (fun x hx => d x (List.mem_cons_of_mem _ hx)) v2 a2 b2⟩
theorem NR.to : ∀ {l : List (Val × Val)} {xs : List NE} {ys : List V}, NR K g H l xs ys → l.map (fun p => keyN p.1) = xs.map (fun x => some x.1) ∧ (∀ x ∈ xs, x.1.depth ≤ 8) ∧ Vals ys (xs.map (·.2.2)) ∧ VRs K g H (l.map (·.1)) (xs.map fun x => V.ref x.2.1) ∧ VRs K g H (l.map (·.2)) ys
  | [], [], [], _ => ⟨rfl, by simp, .nil, VRs.nil, VRs.nil⟩
  | q :: l, x :: xs, y :: ys, ⟨⟨e, d, r1, r2, rv⟩, t⟩ => by
    obtain ⟨h1, h2, h3, h4, h5⟩ := NR.to t
    refine ⟨by simp [e, h1], fun z hz => ?_, .cons rv h3, .cons r1 h4, .cons r2 h5⟩
    rcases List.mem_cons.mp hz with rfl | hz
    · exact d
    · exact h2 z hz
  | [], _ :: _, _, t => t.elim
  | [], [], _ :: _, t => t.elim
  | _ :: _, [], _, t => t.elim
  | _ :: _, _ :: _, [], t => t.elim
theorem NR.keys {X : Cx} {pins : List (Addr × Obj)} {σ : L2.St} {s : Shared} (I : Inv X pins σ H s) : ∀ {l : List (Val × Val)} {xs : List NE} {ys : List V}, NR X.K g H l xs ys → ∀ x ∈ xs, NestedIs s.heap x.1 (.ref x.2.1) ∧ x.1.depth ≤ 8
  | [], [], [], _, x, hx => nomatch hx
  | q :: l, z :: xs, y :: ys, ⟨⟨e, d, r1, r2, rv⟩, t⟩, x, hx => by
    rcases List.mem_cons.mp hx with rfl | hx
    · exact ⟨keyN_is I e r1 rfl, d⟩
    · exact NR.keys I t x hx
  | [], _ :: _, _, t, _, _ => t.elim
  | [], [], _ :: _, t, _, _ => t.elim
  | _ :: _, [], _, t, _, _ => t.elim
  | _ :: _, _ :: _, [], t, _, _ => t.elim
def kEqN (a b : Val) : Bool := decide (keyN a = keyN b)
def dGetN (l : List (Val × Val)) (k : Val) : Option Val := (l.find? fun p => kEqN p.1 k).map (·.2)
def dPutN (l : List (Val × Val)) (k v : Val) : List (Val × Val) := if (l.any fun p => kEqN p.1 k) then l.map (fun p => if kEqN p.1 k then (p.1, v) else p) else l ++ [(k, v)]
theorem kEqN_key {q k : Val} {a b : NestedKey} (e1 : keyN q = some a) (e2 : keyN k = some b) : kEqN q k = decide (a = b) := by
  unfold kEqN
  rw [e1, e2]
  exact decide_eq_decide.mpr (by simp)
theorem atKey_cons (x : NE) (xs : List NE) (k : NestedKey) : atKey (x :: xs) k = if x.1 = k then some (x.2.1, x.2.2) else atKey xs k := by
  unfold atKey
  rw [List.find?_cons]
  by_cases c : x.1 = k
  · rw [decide_eq_true c, if_pos c]; rfl
  · rw [decide_eq_false c, if_neg c]
theorem NR.get {k : Val} {nk : NestedKey} (hk : keyN k = some nk) : ∀ {l : List (Val × Val)} {xs : List NE} {ys : List V}, NR K g H l xs ys → (∀ v, dGetN l k = some v → ∃ p y, atKey xs nk = some p ∧ VR K g H v y ∧ RelV y p.2) ∧ (dGetN l k = none → atKey xs nk = none)
  | [], [], [], _ => ⟨fun v e => by simp [dGetN] at e, fun _ => rfl⟩
  | q :: l, x :: xs, y :: ys, ⟨⟨e, d, r1, r2, rv⟩, t⟩ => by
    have ih := NR.get hk t
    have ek := kEqN_key e hk
    rw [atKey_cons]
    by_cases c : x.1 = nk
    · rw [decide_eq_true c] at ek
      have e1 : dGetN (q :: l) k = some q.2 := by simp [dGetN, ek]
      rw [e1, if_pos c]
      exact ⟨fun v z => by cases z; exact ⟨_, y, rfl, r2, rv⟩, fun z => by cases z⟩
    · rw [decide_eq_false c] at ek
      have e1 : dGetN (q :: l) k = dGetN l k := by simp [dGetN, ek]
      rw [e1, if_neg c]
      exact ih
  | [], _ :: _, _, t => t.elim
  | [], [], _ :: _, t => t.elim
  | _ :: _, [], _, t => t.elim
  | _ :: _, _ :: _, [], t => t.elim
theorem NR.any {k : Val} {nk : NestedKey} (hk : keyN k = some nk) : ∀ {l : List (Val × Val)} {xs : List NE} {ys : List V}, NR K g H l xs ys → (l.any fun p => kEqN p.1 k) = (atKey xs nk).isSome
  | [], [], [], _ => rfl
  | q :: l, x :: xs, y :: ys, ⟨⟨e, d, r1, r2, rv⟩, t⟩ => by
    rw [List.any_cons, kEqN_key e hk, NR.any hk t, atKey_cons]
    by_cases c : x.1 = nk
    · simp [c]
    · simp [c]
  | [], _ :: _, _, t => t.elim
  | [], [], _ :: _, t => t.elim
  | _ :: _, [], _, t => t.elim
  | _ :: _, _ :: _, [], t => t.elim
theorem NR.repl {k v : Val} {nk : NestedKey} {z : V} {u : Value} (hk : keyN k = some nk) (rz : VR K g H v z) (ru : RelV z u) : ∀ {l : List (Val × Val)} {xs : List NE} {ys : List V}, NR K g H l xs ys → ∃ ys', NR K g H (l.map fun p => if kEqN p.1 k then (p.1, v) else p) (xs.map (putAt nk u)) ys'
  | [], [], [], _ => ⟨[], True.intro⟩
  | q :: l, x :: xs, y :: ys, ⟨⟨e, d, r1, r2, rv⟩, t⟩ => by
    obtain ⟨ys', t'⟩ := NR.repl hk rz ru t
    by_cases c : x.1 = nk
    · refine ⟨z :: ys', ?_⟩
      simp only [List.map_cons, kEqN_key e hk, c, decide_true, if_true, putAt]
      exact ⟨⟨by show keyN q.1 = some nk; rw [e, c], by show nk.depth ≤ 8; rw [← c]; exact d, r1, rz, ru⟩, t'⟩
    · refine ⟨y :: ys', ?_⟩
      simp only [List.map_cons, kEqN_key e hk, c, decide_false, Bool.false_eq_true, if_false, putAt]
      exact ⟨⟨e, d, r1, r2, rv⟩, t'⟩
  | [], _ :: _, _, t => t.elim
  | [], [], _ :: _, t => t.elim
  | _ :: _, [], _, t => t.elim
  | _ :: _, _ :: _, [], t => t.elim
theorem NR.snoc {k v : Val} {nk : NestedKey} {b : Addr} {z : V} {u : Value} (hk : keyN k = some nk) (hd : nk.depth ≤ 8) (rk : VR K g H k (.ref b)) (rz : VR K g H v z) (ru : RelV z u) : ∀ {l : List (Val × Val)} {xs : List NE} {ys : List V}, NR K g H l xs ys → NR K g H (l ++ [(k, v)]) (xs ++ [(nk, b, u)]) (ys ++ [z])
  | [], [], [], _ => ⟨⟨hk, hd, rk, rz, ru⟩, True.intro⟩
  | q :: l, x :: xs, y :: ys, ⟨c, t⟩ => ⟨c, NR.snoc hk hd rk rz ru t⟩
  | [], _ :: _, _, t => t.elim
  | [], [], _ :: _, t => t.elim
  | _ :: _, [], _, t => t.elim
  | _ :: _, _ :: _, [], t => t.elim
theorem NR.put {k v : Val} {nk : NestedKey} {b : Addr} {z : V} {u : Value} (hk : keyN k = some nk) (hd : nk.depth ≤ 8) (rk : VR K g H k (.ref b)) (rz : VR K g H v z) (ru : RelV z u) {l : List (Val × Val)} {xs : List NE} {ys : List V} (r : NR K g H l xs ys) : ∃ ys', NR K g H (dPutN l k v) (storedH xs nk b u) ys' := by
  unfold dPutN storedH
  rw [NR.any hk r]
  cases c : (atKey xs nk).isSome with
  | true => simpa using NR.repl hk rz ru r
  | false => exact ⟨_, by simpa using NR.snoc hk hd rk rz ru r⟩
theorem dPutN_len (l : List (Val × Val)) (k v : Val) : (dPutN l k v).length ≤ l.length + 1 := by
  unfold dPutN
  split <;> simp
end
/-! ### the dict itself -/
section
variable {X : Cx} {pins : List (Addr × Obj)} {σ : L2.St} {g : Gh} {H : Hp} {s : Shared} {a : Addr} {l : List (Val × Val)} {xs : NX} {ys : List V} {A : Around} {E : Value → Shared → Prop}
theorem entN_eq (hw : X.w = TheWorld.w) (x : NE) : entN x = entryOfKey (nestedKind X.prog X.w) x := by
  unfold entN
  rw [← hw]
  rfl
theorem dn_of (I : Inv X pins σ H s) (hw : X.w = TheWorld.w) (e : H a = some (DN a xs)) (nd : (xs.2.map (·.1)).Nodup) (r : NR X.K g H l xs.2 ys) : s.heap.DictOfH (nestedKind X.prog X.w) a xs.2 := by
  obtain ⟨es, ep, h1, h2, h3, h4⟩ := (I.hok a _ e).1
  refine ⟨xs.1, es, ep, h1, h2, h3, ?_, fun x hx => NR.keys I r x hx, nd⟩
  rw [h4]
  exact List.map_congr_left fun x _ => entN_eq hw x
theorem dn_new {h' : Heap} {xs : List NE} (hw : X.w = TheWorld.w) {H' : Obj → Hp} (dd : h'.DictOfH (nestedKind X.prog X.w) a xs) : ∃ o, h'.get? a = some o ∧ ObjOk X.prog X.w (H' o) h' a (DN a (o, xs)) := by
  obtain ⟨o, es, ep, h1, h2, h3, h4, _, _⟩ := dd
  refine ⟨o, h1, ⟨es, ep, h1, h2, h3, ?_⟩, ⟨o, h1⟩, fun p q ⟨es, ep, a1, a2, a3, a4⟩ st => ⟨es, ep, st _ a1, a2, a3, a4⟩⟩
  rw [h4]
  exact (List.map_congr_left fun x _ => entN_eq hw x).symm
theorem dn_type (I : Inv X pins σ H s) (e : H a = some (DN a xs)) : s.TypeIs (.ref a) "dict" ∧ ∀ b, Value.ref a = .ref b → ∃ ob, s.heap.get? b = some ob ∧ ob.dict = none := by
  obtain ⟨es, ep, h1, h2, h3, h4⟩ := (I.hok a _ e).1
  exact ⟨⟨xs.1, h1, h2.1⟩, fun b z => by cases z; exact ⟨xs.1, h1, h2.2.1⟩⟩
theorem dn_getItem {k v : Val} {y : V} {u : Value} {Q : Value → Shared → Prop} (hu : A.units + 200 < cLine) (I : Inv X pins σ H s) (hw : X.w = TheWorld.w) (e : H a = some (DN a xs)) (nd : (xs.2.map (·.1)).Nodup) (r : NR X.K g H l xs.2 ys)
    {nk : NestedKey} (hk : keyN k = some nk) (hd : nk.depth ≤ 8) {b : Addr} (rk : VR X.K g H k (.ref b)) (hv : dGetN l k = some v) (h : ∀ z w' s', Inv X pins σ H s' → VR X.K g H v z → RelV z w' → Q w' s') : wpAny (model X.prog X.w) A (getItem (.ref a) (.ref b)) Q E s := by
  obtain ⟨p, z, hp, rz, ru⟩ := (NR.get hk r).1 v hv
  exact wpAny_getItem_heap (knd := nestedKind X.prog X.w) (show A.units + 1 + 8 < cLine by omega) ⟨keyN_is I hk rk rfl, hd⟩ (dn_of I hw e nd r) hp (h z _ _ (I.tok _) rz ru)
theorem dn_in {k : Val} {Q : Value → Shared → Prop} (hu : A.units + 200 < cLine) (I : Inv X pins σ H s) (hw : X.w = TheWorld.w) (e : H a = some (DN a xs)) (hs : (a == sysModules) = false) (nd : (xs.2.map (·.1)).Nodup) (r : NR X.K g H l xs.2 ys)
    {nk : NestedKey} (hk : keyN k = some nk) (hd : nk.depth ≤ 8) {b : Addr} (rk : VR X.K g H k (.ref b)) (h : ∀ s', Inv X pins σ H s' → Q (.bool (l.any fun p => kEqN p.1 k)) s') : wpAny (model X.prog X.w) A (compareOp .In (.ref b) (.ref a)) Q E s := by
  refine wpAny_in_heap (knd := nestedKind X.prog X.w) (show A.units + 1 + 8 < cLine by omega) ⟨keyN_is I hk rk rfl, hd⟩ hs (dn_of I hw e nd r) ?_
  rw [← NR.any hk r]
  exact h _ (I.tok _)
theorem dn_setItem {k v : Val} {y : V} {u : Value} {Q : Unit → Shared → Prop} (hu : A.units + 200 < cLine) (I : Inv X pins σ H s) (hw : X.w = TheWorld.w) (e : H a = some (DN a xs)) (hl : xs.2.length ≤ sizeLine) (nd : (xs.2.map (·.1)).Nodup) (r : NR X.K g H l xs.2 ys)
    {nk : NestedKey} (hk : keyN k = some nk) (hd : nk.depth ≤ 8) {b : Addr} (rk : VR X.K g H k (.ref b)) (h : ∀ s' o, ((storedH xs.2 nk b u).map (·.1)).Nodup → Inv X pins σ (upd H a (DN a (o, storedH xs.2 nk b u))) s' → Q () s') : wpAny (model X.prog X.w) A (setItem (.ref a) (.ref b) u) Q E s := by
  refine wpAny_setItem_heap (hsz := hl) (knd := nestedKind X.prog X.w) (show A.units + 1 + 8 < cLine by omega) ⟨keyN_is I hk rk rfl, hd⟩ (dn_of I hw e nd r) fun h' dd' hs => ?_
  have nd' : ((storedH xs.2 nk b u).map (·.1)).Nodup := let ⟨_, _, _, _, _, _, _, _, n⟩ := dd'; n
  obtain ⟨o, h1, new⟩ := dn_new (H' := fun o => upd H a (DN a (o, storedH xs.2 nk b u))) hw dd'
  exact h _ o nd' (d_write I (by rw [e]; exact True.intro) hs ⟨o, h1⟩ new)
end
end GH
set_option Elab.async false
set_option linter.all false
set_option maxRecDepth 100000
set_option maxHeartbeats 1000000
set_option autoImplicit false
/-! Operators, subscripts, lengths, truth, lists and dicts: what they yield on values. -/
namespace GH
open PySem PySem.Spec PyProof.Rows L2
variable [TheWorld]

/-! ### reading sequences -/
def lstOf (h : Hv) : Val → Option (List Val)
  | .lst l => some l
  | .ref i => match h[i]? with
    | some (.lst l) => some l
    | _ => none
  | _ => none
def seqOf (h : Hv) : Val → Option (List Val)
  | .tup l => some l
  | v => lstOf h v
def dicOf (h : Hv) : Val → Option (List (Val × Val))
  | .ref i => match h[i]? with
    | some (.dic l) => some l
    | _ => none
  | _ => none
section
variable {K : PySem.W.Frag} {g : Gh} {H : Hp} {h : Hv} {v : Val} {x : V} {l : List Val}
theorem ref_at (R : HR K g H h) {i : Nat} {o : Ob} {a : Addr} (e : h[i]? = some o) (hm : g.m[i]? = some a) : OR K g H a o := R.obj i o a e hm
theorem lstOf_ok (R : HR K g H h) (r : VR K g H v x) (e : lstOf h v = some l) : ∃ a xs, x = .ref a ∧ H a = some (.lst xs) ∧ VRs K g H l xs := by
  cases v with
  | lst k =>
    simp only [lstOf, Option.some.injEq] at e
    subst e
    simp only [VR] at r
    obtain ⟨a, xs, e, _, s, r⟩ := r
    exact ⟨a, xs, e, s, r⟩
  | ref i =>
    simp only [lstOf] at e
    split at e
    · rename_i l' hl
      cases e
      simp only [VR] at r
      obtain ⟨a, rfl, hm⟩ := r
      obtain ⟨xs, e1, e2⟩ := ref_at R hl hm
      exact ⟨a, xs, rfl, e1, e2⟩
    · cases e
  | _ => simp [lstOf] at e
theorem seqOf_ok (R : HR K g H h) (r : VR K g H v x) (e : seqOf h v = some l) : ∃ a xs, x = .ref a ∧ (SqL K H a xs ∨ SqT K H a xs) ∧ VRs K g H l xs := by
  cases v with
  | tup k =>
    simp only [seqOf, Option.some.injEq] at e
    subst e
    simp only [VR] at r
    obtain ⟨a, xs, e, s, r⟩ := r
    exact ⟨a, xs, e, .inr s, r⟩
  | lst k => obtain ⟨a, xs, e, s, r⟩ := lstOf_ok R r (by simpa [seqOf] using e); exact ⟨a, xs, e, .inl (SqL.of s), r⟩
  | ref i => obtain ⟨a, xs, e, s, r⟩ := lstOf_ok R r (by simpa [seqOf] using e); exact ⟨a, xs, e, .inl (SqL.of s), r⟩
  | _ => simp [seqOf, lstOf] at e
theorem dicOf_ok (R : HR K g H h) (r : VR K g H v x) {l : List (Val × Val)} (e : dicOf h v = some l) : ∃ i a ks, v = .ref i ∧ x = .ref a ∧ g.m[i]? = some a ∧ h[i]? = some (.dic l) ∧ H a = some (.dK ks) ∧ DR K g H l ks := by
  cases v with
  | ref i =>
    simp only [dicOf] at e
    split at e
    · rename_i l' hl
      cases e
      simp only [VR] at r
      obtain ⟨a, rfl, hm⟩ := r
      obtain ⟨ks, e1, e2⟩ := ref_at R hl hm
      exact ⟨i, a, ks, rfl, rfl, hm, hl, e1, e2⟩
    · cases e
  | _ => simp [dicOf] at e
/-- an object of ours is written -/
theorem HR.write (R : HR K g H h) {i : Nat} {a : Addr} {ob : Ob} {o' : HO} (hm : g.m[i]? = some a) (ok : Ext g H g (upd H a o') → OR K g (upd H a o') a ob) (nt' : ∀ ps, o' ≠ .tbl ps := by intro ps z; cases z) :
    Ext g H g (upd H a o') ∧ HR K g (upd H a o') (h.set i ob) := by
  have ha : a ∈ g.m := List.mem_of_getElem? hm
  have E : Ext g H g (upd H a o') := by
    refine ⟨⟨[], by simp, by simp⟩, rfl, fun b u e _ hb => ?_, fun b u e nt => ?_⟩
    · rw [upd_ne (show b ≠ a from fun z => hb (by rw [z]; exact ha))]; exact e
    · by_cases hb : b = a
      · subst hb; exact ⟨_, upd_same, nt'⟩
      · exact ⟨u, by rw [upd_ne hb]; exact e, nt⟩
  refine ⟨E, by simp [R.len], R.nd, R.dis, fun b hb => ?_, fun j o b e1 e2 => ?_⟩
  · obtain ⟨ob, e, mu⟩ := R.al b hb
    exact ⟨ob, by rw [upd_ne (show b ≠ a from fun z => R.dis a ha (by rw [← z]; exact hb))]; exact e, mu⟩
  · by_cases hj : i = j
    · subst hj
      have hi : i < h.length := by rw [← R.len]; exact (List.getElem?_eq_some_iff.mp hm).1
      rw [List.getElem?_set_self hi] at e1
      cases e1
      rw [hm] at e2
      cases e2
      exact ok E
    · rw [List.getElem?_set_ne hj] at e1
      have hba : b ≠ a := by
        rintro rfl
        have h1 := (List.getElem?_eq_some_iff.mp hm)
        have h2 := (List.getElem?_eq_some_iff.mp e2)
        obtain ⟨l1, p1⟩ := h1
        obtain ⟨l2, p2⟩ := h2
        exact hj ((List.getElem_inj R.nd).mp (p1.trans p2.symm))
      have q := R.obj j o b e1 e2
      cases o with
      | lst l => obtain ⟨xs, e, r⟩ := q; exact ⟨xs, by rw [upd_ne hba]; exact e, r.ext R E⟩
      | dic l => obtain ⟨xs, e, r⟩ := q; exact ⟨xs, by rw [upd_ne hba]; exact e, r.1, r.2.ext R E⟩
      | ins c f => obtain ⟨dx, gs, e, r⟩ := q; exact ⟨dx, gs, by rw [upd_ne hba]; exact e, r.1, r.2.ext R E⟩
      | dn l => obtain ⟨xs, ys, e, p, r1, r2⟩ := q; exact ⟨xs, ys, by rw [upd_ne hba]; exact e, p, r1.ext R E, r2.ext R E⟩
      | tbl t => exact ⟨q.1, q.2.stay (fun ps e => by rw [upd_ne hba]; exact e) (fun c o e nt hn => ⟨by rw [upd_ne (fun z => hn (.inl (by rw [z]; exact ha)))]; exact e, hn⟩)⟩
end

/-! ### arithmetic -/
def big64 (i : Int) : Bool := decide (-(2 ^ 64) < i) && decide (i < 2 ^ 64)
def vAdd (v u : Val) (h : Hv) : Res Val := match v, u with
  | .int i, .int j => .ok (.int (i + j)) h
  | .str a, .str b => if a.length + b.length ≤ lineN then .ok (.str (a ++ b)) h else .fail
  | .tup a, .tup b => if a.length + b.length ≤ lineN then .ok (.tup (a ++ b)) h else .fail
  | v, u => match lstOf h v, lstOf h u with
    | some a, some b => if a.length + b.length ≤ lineN then .ok (.lst (a ++ b)) h else .fail
    | _, _ => .fail
def vSub (v u : Val) (h : Hv) : Res Val := match v, u with
  | .int i, .int j => .ok (.int (i - j)) h
  | _, _ => .fail
def vMul (v u : Val) (h : Hv) : Res Val := match v, u with
  | .int i, .int j => if big64 i || big64 j then .ok (.int (i * j)) h else .fail
  | .lst l, .int k => if -(2 ^ 63) ≤ k ∧ k < 2 ^ 63 ∧ l.length * k.toNat ≤ lineN then .ok (.lst (List.replicate k.toNat l).flatten) h else .fail
  | _, _ => .fail
def vDiv (v u : Val) (h : Hv) : Res Val := match v, u with
  | .int i, .int j => if 0 < j ∧ j < 1073741824 then .ok (.int (i / j)) h else .fail
  | _, _ => .fail
def vMod (v u : Val) (h : Hv) : Res Val := match v, u with
  | .int i, .int j => if 0 < j then .ok (.int (i % j)) h else .fail
  | _, _ => .fail
def vPow (v u : Val) (h : Hv) : Res Val := match v, u with
  | .int i, .int j => if 0 ≤ j ∧ j ≤ 1000000 ∧ i.natAbs < 2 ^ 64 then .ok (.int (i ^ j.toNat)) h else .fail
  | _, _ => .fail
def vCmpI (p : Int → Int → Bool) (v u : Val) (h : Hv) : Res Val := match v, u with
  | .int i, .int j => .ok (.bl (p i j)) h
  | _, _ => .fail
section
variable {X : Cx}
theorem sOf_append (a b : List Nat) : sOf a ++ sOf b = sOf (a ++ b) := by
  show (⟨(sOf a).cps ++ (sOf b).cps⟩ : Str) = _
  simp [sOf]
theorem og_add : OpG X (binaryOp .Add) vAdd := by
  refine ⟨_, op_add.or (op_add_str.or (op_catA.or op_cat)), fun W g H h σ v u x y Q R rv ru A => ?_⟩
  have lists : ∀ (A : After X.K W (vr X.K) σ g H Q (match lstOf h v, lstOf h u with
    | some a, some b => if a.length + b.length ≤ lineN then .ok (.lst (a ++ b)) h else .fail
    | _, _ => .fail)), rCat x y H Q := by
    intro A
    split at A
    · rename_i a b e1 e2
      split at A
      · rename_i hl
        obtain ⟨p, xs, rfl, s1, r1⟩ := lstOf_ok R rv e1
        obtain ⟨q, ys, rfl, s2, r2⟩ := lstOf_ok R ru e2
        refine ⟨p, q, xs, ys, rfl, rfl, s1, s2, by rw [← r1.length, ← r2.length]; exact line_ok hl, fun b np => ?_⟩
        obtain ⟨E, R1⟩ := R.grow (o := .lst (xs ++ ys)) np
        refine A g _ (.ref b) E R1 ?_
        simp only [VR]
        exact ⟨b, _, rfl, R.fresh np, upd_same, (r1.append r2).ext R E⟩
      · exact A.elim
    · exact A.elim
  unfold vAdd at A
  split at A
  · simp only [VR] at rv ru
    subst rv ru
    exact .inl ⟨_, _, rfl, rfl, A g H _ Ext.refl R (by simp only [VR])⟩
  · rename_i a b
    simp only [VR] at rv ru
    subst rv ru
    split at A
    · rename_i hl
      exact .inr (.inl ⟨_, _, rfl, rfl, by rw [sOf_len, sOf_len]; exact line_ok hl, A g H _ Ext.refl R (by simp only [VR]; rw [sOf_append])⟩)
    · exact A.elim
  · rename_i a b
    split at A
    · rename_i hl
      simp only [VR] at rv ru
      obtain ⟨p, xs, rfl, s1, r1⟩ := rv
      obtain ⟨q, ys, rfl, s2, r2⟩ := ru
      refine .inr (.inr (.inl ⟨p, q, xs, ys, rfl, rfl, s1, s2, by rw [← r1.length, ← r2.length]; exact line_ok hl, fun e => ?_, fun e e' => ?_, fun _ _ b np => ?_⟩))
      · subst e
        refine A g H _ Ext.refl R ?_
        simp only [VR]
        exact ⟨q, ys, rfl, s2, by simpa using r1.append r2⟩
      · subst e'
        refine A g H _ Ext.refl R ?_
        simp only [VR]
        exact ⟨p, xs, rfl, s1, by simpa using r1.append r2⟩
      · obtain ⟨E, R1⟩ := R.grow (o := .tup (xs ++ ys)) np
        refine A g _ (.ref b) E R1 ?_
        simp only [VR]
        exact ⟨b, _, rfl, SqT.of upd_same, (r1.append r2).ext R E⟩
    · exact A.elim
  · exact .inr (.inr (.inr (lists A)))
theorem og_int {op : Value → Value → Sem Value} {C : Int → Int → Prop} {f : Int → Int → V} {d : Val → Val → Hv → Res Val} (ho : OpR X op (rI C f))
    (hd : ∀ (W : WX) (g : Gh) (H : Hp) (h : Hv) (σ : L2.St) (v u : Val) (Q : VK), HR X.K g H h → After X.K W (vr X.K) σ g H Q (d v u h) → ∃ i j, v = .int i ∧ u = .int j ∧ C i j ∧ Q (f i j) H) : OpG X op d := by
  refine ⟨_, ho, fun W g H h σ v u x y Q R rv ru A => ?_⟩
  obtain ⟨i, j, rfl, rfl, c, q⟩ := hd W g H h σ v u Q R A
  simp only [VR] at rv ru
  exact ⟨i, j, rv, ru, c, q⟩
theorem og_int0 {op : Value → Value → Sem Value} {f : Int → Int → V} {d : Val → Val → Hv → Res Val} (ho : OpR X op (rI0 f))
    (hd : ∀ (W : WX) (g : Gh) (H : Hp) (h : Hv) (σ : L2.St) (v u : Val) (Q : VK), HR X.K g H h → After X.K W (vr X.K) σ g H Q (d v u h) → ∃ i j, v = .int i ∧ u = .int j ∧ Q (f i j) H) : OpG X op d := by
  refine ⟨_, ho, fun W g H h σ v u x y Q R rv ru A => ?_⟩
  obtain ⟨i, j, rfl, rfl, q⟩ := hd W g H h σ v u Q R A
  simp only [VR] at rv ru
  exact ⟨i, j, rv, ru, q⟩
theorem og_sub : OpG X (binaryOp .Sub) vSub := og_int0 op_sub fun W g H h σ v u Q R A => by
  unfold vSub at A
  split at A
  · exact ⟨_, _, rfl, rfl, A g H _ Ext.refl R (by simp only [VR])⟩
  · exact A.elim
theorem og_div : OpG X (binaryOp .FloorDiv) vDiv := og_int op_fdiv fun W g H h σ v u Q R A => by
  unfold vDiv at A
  split at A
  · split at A
    · rename_i c
      exact ⟨_, _, rfl, rfl, c, A g H _ Ext.refl R (by simp only [VR])⟩
    · exact A.elim
  · exact A.elim
theorem og_mod : OpG X (binaryOp .Mod) vMod := og_int op_mod fun W g H h σ v u Q R A => by
  unfold vMod at A
  split at A
  · split at A
    · rename_i c
      exact ⟨_, _, rfl, rfl, c, A g H _ Ext.refl R (by simp only [VR])⟩
    · exact A.elim
  · exact A.elim
theorem og_pow : OpG X (binaryOp .Pow) vPow := og_int op_pow fun W g H h σ v u Q R A => by
  unfold vPow at A
  split at A
  · split at A
    · rename_i c
      exact ⟨_, _, rfl, rfl, c, A g H _ Ext.refl R (by simp only [VR])⟩
    · exact A.elim
  · exact A.elim
theorem big64_ok {i : Int} (h : big64 i = true) : -(2 ^ 64) < i ∧ i < 2 ^ 64 := by
  simpa [big64] using h
theorem og_mul : OpG X (binaryOp .Mult) vMul := by
  refine ⟨_, op_mul.or op_rep, fun W g H h σ v u x y Q R rv ru A => ?_⟩
  unfold vMul at A
  split at A
  · split at A
    · rename_i c
      simp only [VR] at rv ru
      subst rv ru
      refine .inl ⟨_, _, rfl, rfl, ?_, A g H _ Ext.refl R (by simp only [VR])⟩
      rcases Bool.or_eq_true_iff.mp c with c | c
      · exact .inl (big64_ok c)
      · exact .inr (big64_ok c)
    · exact A.elim
  · rename_i l k
    split at A
    · rename_i c
      simp only [VR] at rv ru
      subst ru
      obtain ⟨p, xs, rfl, n, s1, r1⟩ := rv
      refine .inr ⟨p, k, xs, rfl, rfl, s1, c.1, c.2.1, by rw [← r1.length]; exact line_ok c.2.2, fun b np => ?_⟩
      obtain ⟨E, R1⟩ := R.grow (o := .lst (List.replicate k.toNat xs).flatten) np
      refine A g _ (.ref b) E R1 ?_
      simp only [VR]
      refine ⟨b, _, rfl, R.fresh np, upd_same, ?_⟩
      have rep : ∀ n : Nat, VRs X.K g H (List.replicate n l).flatten (List.replicate n xs).flatten := by
        intro n
        induction n with
        | zero => simpa using VRs.nil
        | succ n ih => rw [List.replicate_succ, List.replicate_succ, List.flatten_cons, List.flatten_cons]; exact r1.append ih
      exact (rep _).ext R E
    · exact A.elim
  · exact A.elim
theorem og_cmpI {op : CmpOp} {p : Int → Int → Bool} (ho : OpR X (compareOp op) (rI0 fun i j => .bl (p i j))) : OpG X (compareOp op) (vCmpI p) := og_int0 ho fun W g H h σ v u Q R A => by
  unfold vCmpI at A
  split at A
  · exact ⟨_, _, rfl, rfl, A g H _ Ext.refl R (by simp only [VR])⟩
  · exact A.elim
abbrev vLt := vCmpI fun i j => decide (i < j)
abbrev vLe := vCmpI fun i j => decide (i ≤ j)
abbrev vGt := vCmpI fun i j => decide (j < i)
abbrev vGe := vCmpI fun i j => decide (j ≤ i)
theorem og_lt : OpG X (compareOp .Lt) vLt := og_cmpI op_lt
theorem og_le : OpG X (compareOp .LtE) vLe := og_cmpI op_le
theorem og_gt : OpG X (compareOp .Gt) vGt := og_cmpI op_gt
theorem og_ge : OpG X (compareOp .GtE) vGe := og_cmpI op_ge
def isNon : Val → Bool
  | .non => true
  | _ => false
def vIsN (v u : Val) (h : Hv) : Res Val := match u with
  | .non => .ok (.bl (isNon v)) h
  | _ => .fail
def vNotN (v u : Val) (h : Hv) : Res Val := match u with
  | .non => .ok (.bl (!isNon v)) h
  | _ => .fail
theorem VR.non_iff {K : PySem.W.Frag} {g : Gh} {H : Hp} {v : Val} {x : V} (r : VR K g H v x) : decide (x = .non) = isNon v := by
  cases v <;> simp only [VR] at r <;> first | (subst r; rfl) | (obtain ⟨_, _, _, rfl, _⟩ := r; rfl) | (obtain ⟨_, _, rfl, _⟩ := r; rfl) | (obtain ⟨_, rfl, _⟩ := r; rfl)
theorem og_isN : OpG X (compareOp .Is) vIsN := by
  refine ⟨_, op_isN, fun W g H h σ v u x y Q R rv ru A => ?_⟩
  unfold vIsN at A
  split at A
  · simp only [VR] at ru
    refine ⟨ru, ?_⟩
    rw [rv.non_iff]
    exact A g H _ Ext.refl R (by simp only [VR])
  · exact A.elim
theorem og_notN : OpG X (compareOp .IsNot) vNotN := by
  refine ⟨_, op_notN, fun W g H h σ v u x y Q R rv ru A => ?_⟩
  unfold vNotN at A
  split at A
  · simp only [VR] at ru
    refine ⟨ru, ?_⟩
    rw [rv.non_iff]
    exact A g H _ Ext.refl R (by simp only [VR])
  · exact A.elim
/-- -e -/
def dNeg (d : Den) : Den := fun l h => (d l h).bind fun v h1 => match v with
  | .int i => .ok (.int (-i)) h1
  | _ => .fail
theorem ge_neg {W : WX} {a : Expr} {d : Den} {pos : Pos} (ha : GE X W a d) : GE X W (.UnaryOp .USub a pos) (dNeg d) := by
  refine PE.imp (pe_un un_neg ha) fun σ H Q ⟨g, l, h, S, R, A⟩ => ?_
  refine tG_of S R A fun v h1 g1 H1 x E S1 R1 r1 A1 => ?_
  cases v with
  | int i =>
    simp only [VR] at r1
    exact ⟨i, r1, A1 g1 H1 _ Ext.refl R1 (by simp only [VR])⟩
  | _ => exact A1.elim

/-! ### dicts as lists of pairs -/
def kEq : Val → Val → Bool
  | .int i, .int j => decide (i = j)
  | .str a, .str b => decide (a = b)
  | _, _ => false
def dGet (l : List (Val × Val)) (k : Val) : Option Val := (l.find? fun p => kEq p.1 k).map (·.2)
def dPut (l : List (Val × Val)) (k v : Val) : List (Val × Val) := if (l.any fun p => kEq p.1 k) then l.map (fun p => if kEq p.1 k then (p.1, v) else p) else l ++ [(k, v)]
def dDrop (l : List (Val × Val)) (k : Val) : List (Val × Val) := l.filter fun p => !kEq p.1 k
theorem kEq_key {a b : Val} {ka kb : Key} (ha : keyOf a = some ka) (hb : keyOf b = some kb) : kEq a b = decide (ka = kb) := by
  cases a <;> simp only [keyOf, Option.some.injEq, reduceCtorEq] at ha <;> cases b <;> simp only [keyOf, Option.some.injEq, reduceCtorEq] at hb <;> subst ha hb
  · rename_i i j
    simp only [kEq]
    by_cases e : i = j
    · subst e; simp
    · rw [decide_eq_false e, decide_eq_false (fun z => e (Sum.inl.inj z))]
  · simp [kEq]
  · simp [kEq]
  · rename_i i j
    simp only [kEq]
    by_cases e : i = j
    · subst e; simp
    · rw [decide_eq_false e, decide_eq_false (fun z => e (sOf_inj (Sum.inr.inj z)))]
section
variable {K : PySem.W.Frag} {g : Gh} {H : Hp}
theorem DR.nil : DR K g H [] [] := ⟨rfl, VRs.nil⟩
theorem DR.inv {l : List (Val × Val)} {p : Val × Val} {ks : List (Key × V)} (r : DR K g H (p :: l) ks) : ∃ q ks', ks = q :: ks' ∧ keyOf p.1 = some q.1 ∧ VR K g H p.2 q.2 ∧ DR K g H l ks' := by
  obtain ⟨e, r⟩ := r
  cases ks with
  | nil => simp at e
  | cons q ks' =>
    simp only [List.map_cons, List.cons.injEq] at e
    simp only [List.map_cons, VRs] at r
    obtain ⟨x, r', e1, q1, q2⟩ := r
    cases e1
    exact ⟨q, ks', rfl, e.1, q1, e.2, q2⟩
theorem DR.cons {l : List (Val × Val)} {p : Val × Val} {ks : List (Key × V)} {q : Key × V} (e : keyOf p.1 = some q.1) (r : VR K g H p.2 q.2) (t : DR K g H l ks) : DR K g H (p :: l) (q :: ks) :=
  ⟨by simp [e, t.1], by simp only [List.map_cons]; exact .cons r t.2⟩
theorem DR.nilInv {ks : List (Key × V)} (r : DR K g H [] ks) : ks = [] := by
  obtain ⟨e, _⟩ := r
  cases ks with
  | nil => rfl
  | cons q ks' => simp at e
theorem DR.length : ∀ {l : List (Val × Val)} {ks : List (Key × V)}, DR K g H l ks → l.length = ks.length
  | [], ks, r => by rw [r.nilInv]; rfl
  | p :: l, ks, r => by obtain ⟨q, ks', rfl, _, _, t⟩ := r.inv; simp [DR.length t]
theorem DR.get {k : Val} {kk : Key} (hk : keyOf k = some kk) : ∀ {l : List (Val × Val)} {ks : List (Key × V)}, DR K g H l ks → (∀ v, dGet l k = some v → ∃ x, valV ks kk = some x ∧ VR K g H v x) ∧ (dGet l k = none → valV ks kk = none)
  | [], ks, r => by rw [r.nilInv]; exact ⟨fun v e => by simp [dGet] at e, fun _ => rfl⟩
  | p :: l, ks, r => by
    obtain ⟨q, ks', rfl, e, rv, t⟩ := r.inv
    have ih := DR.get hk t
    have ek := kEq_key e hk
    by_cases c : q.1 = kk
    · rw [decide_eq_true c] at ek
      have e1 : dGet (p :: l) k = some p.2 := by simp [dGet, ek]
      rw [e1, valV_pos c]
      exact ⟨fun v z => by cases z; exact ⟨_, rfl, rv⟩, fun z => by cases z⟩
    · rw [decide_eq_false c] at ek
      have e1 : dGet (p :: l) k = dGet l k := by simp [dGet, ek]
      rw [e1, valV_neg c]
      exact ih
theorem DR.any {k : Val} {kk : Key} (hk : keyOf k = some kk) : ∀ {l : List (Val × Val)} {ks : List (Key × V)}, DR K g H l ks → (l.any fun p => kEq p.1 k) = (ks.any fun kv => decide (kv.1 = kk))
  | [], ks, r => by rw [r.nilInv]; rfl
  | p :: l, ks, r => by
    obtain ⟨q, ks', rfl, e, rv, t⟩ := r.inv
    simp only [List.any_cons, kEq_key e hk, DR.any hk t]
theorem DR.repl {k v : Val} {kk : Key} {x : V} (hk : keyOf k = some kk) (rx : VR K g H v x) : ∀ {l : List (Val × Val)} {ks : List (Key × V)}, DR K g H l ks → DR K g H (l.map fun p => if kEq p.1 k then (p.1, v) else p) (ks.map fun kv => if kv.1 = kk then (kv.1, x) else kv)
  | [], ks, r => by rw [r.nilInv]; exact DR.nil
  | p :: l, ks, r => by
    obtain ⟨q, ks', rfl, e, rv, t⟩ := r.inv
    simp only [List.map_cons, kEq_key e hk]
    by_cases c : q.1 = kk
    · simp only [c, decide_true, if_true]
      exact .cons (by show keyOf p.1 = some kk; rw [e, c]) rx (DR.repl hk rx t)
    · simp only [c, decide_false, if_false, Bool.false_eq_true]
      exact .cons e rv (DR.repl hk rx t)
theorem DR.append {l l' : List (Val × Val)} {ks ks' : List (Key × V)} (a : DR K g H l ks) (b : DR K g H l' ks') : DR K g H (l ++ l') (ks ++ ks') :=
  ⟨by simp [a.1, b.1], by simpa using a.2.append b.2⟩
theorem DR.put {k v : Val} {kk : Key} {x : V} {l : List (Val × Val)} {ks : List (Key × V)} (r : DR K g H l ks) (hk : keyOf k = some kk) (rx : VR K g H v x) : DR K g H (dPut l k v) (putK ks kk x) := by
  unfold dPut putK
  rw [DR.any hk r]
  by_cases c : (ks.any fun kv => decide (kv.1 = kk)) = true
  · rw [if_pos c, if_pos c]
    exact DR.repl hk rx r
  · rw [if_neg c, if_neg c]
    exact r.append (.cons hk rx .nil)
theorem DR.drop {k : Val} {kk : Key} (hk : keyOf k = some kk) : ∀ {l : List (Val × Val)} {ks : List (Key × V)}, DR K g H l ks → DR K g H (dDrop l k) (dropK ks kk)
  | [], ks, r => by rw [r.nilInv]; exact DR.nil
  | p :: l, ks, r => by
    obtain ⟨q, ks', rfl, e, rv, t⟩ := r.inv
    unfold dDrop dropK
    have ih := DR.drop hk t
    unfold dDrop dropK at ih
    rw [List.filter_cons, List.filter_cons, kEq_key e hk]
    by_cases c : q.1 = kk
    · rw [if_neg (by simp [c]), if_neg (by simp [c])]
      exact ih
    · rw [if_pos (by simp [c]), if_pos (by simp [c])]
      exact .cons e rv ih
theorem key_V {v : Val} {x : V} {k : Key} (r : VR K g H v x) (e : keyOf v = some k) : x = kV k := by
  cases v <;> simp only [keyOf, Option.some.injEq, reduceCtorEq] at e <;> subst e <;> simp only [VR] at r <;> exact r
end

/-! ### a[b] -/
/-- the item at an index of any sign -/
def nth {α : Type} (l : List α) (i : Int) : Option α := if 0 ≤ i then l[i.toNat]? else if -(l.length : Int) ≤ i then l[(i + l.length).toNat]? else none
theorem nth_atI {α : Type} {l : List α} {i : Int} {v : α} (h : nth l i = some v) : atI l i = some v := by
  unfold nth at h
  unfold atI ixN
  split at h
  · rename_i h0
    have hl := (List.getElem?_eq_some_iff.mp h).1
    rw [if_pos h0, if_pos (by omega)]
    exact h
  · rename_i h0
    split at h
    · rename_i h1
      rw [if_neg h0, if_pos h1]
      exact h
    · cases h
theorem VRs.nth {K : PySem.W.Frag} {g : Gh} {H : Hp} {l : List Val} {xs : List V} {i : Int} {v : Val} (r : VRs K g H l xs) (h : GH.nth l i = some v) : ∃ x, atI xs i = some x ∧ VR K g H v x := by
  have hl := r.length
  unfold GH.nth at h
  split at h
  · rename_i h0
    obtain ⟨x, e, q⟩ := r.get h
    exact ⟨x, nth_atI (by unfold GH.nth; rw [if_pos h0]; exact e), q⟩
  · rename_i h0
    split at h
    · rename_i h1
      obtain ⟨x, e, q⟩ := r.get h
      exact ⟨x, nth_atI (by unfold GH.nth; rw [if_neg h0, if_pos (by omega), ← hl]; exact e), q⟩
    · cases h
def vIx (v u : Val) (h : Hv) : Res Val := match v with
  | .str s => match u with
    | .int i => if s.length ≤ lineN then (match nth s i with
      | some c => .ok (.str [c]) h
      | none => .fail) else .fail
    | _ => .fail
  | v => match seqOf h v with
    | some l => (match u with
      | .int i => (match nth l i with
        | some w => .ok w h
        | none => .fail)
      | _ => .fail)
    | none => match dicOf h v, keyOf u with
      | some l, some _ => (match dGet l u with
        | some w => .ok w h
        | none => .fail)
      | _, _ => .fail
def rIxD : R2 := fun x y H Q => ∃ a v, x = .ref a ∧ DGet H a y (some v) ∧ Q v H
theorem ix_dict (hu : X.A.units + 1 < cLine) : IxR X rIxD := by
  intro value slice pins s σ H x y v u Q I rx ry h hs
  obtain ⟨a, z, rfl, d, q⟩ := h
  obtain rfl : v = Value.ref a := rx
  exact tail_any (dict_typeIs I d) PySem.F.slot_dict_getitem.lookup (d_getItem hu I d ry fun w' s' I' r' => ⟨z, H, I', r', q⟩) hs
theorem vIx_ok {W : WX} {g : Gh} {H : Hp} {h : Hv} {σ : L2.St} {v u : Val} {x y : V} {Q : VK} (R : HR X.K g H h) (rv : VR X.K g H v x) (ru : VR X.K g H u y) (A : After X.K W (vr X.K) σ g H Q (vIx v u h)) : rIx X.K x y H Q ∨ rIxD x y H Q := by
  unfold vIx at A
  split at A
  · rename_i s
    split at A
    · rename_i i
      split at A
      · rename_i hl
        split at A
        · rename_i c e
          simp only [VR] at rv ru
          subst rv ru
          exact .inl (.inr (.inr ⟨_, i, c, rfl, rfl, by rw [sOf_len]; exact line_ok hl, by simpa [sOf] using nth_atI e, A g H _ Ext.refl R (by simp only [VR]; rfl)⟩))
        · exact A.elim
      · exact A.elim
    · exact A.elim
  · rename_i hns
    split at A
    · rename_i l hl
      obtain ⟨a, xs, rfl, s, r⟩ := seqOf_ok R rv hl
      split at A
      · rename_i i
        split at A
        · rename_i w e
          simp only [VR] at ru
          subst ru
          obtain ⟨z, e', rz⟩ := VRs.nth r e
          rcases s with s | s
          · exact .inl (.inl ⟨a, xs, i, z, rfl, rfl, s, e', A g H _ Ext.refl R rz⟩)
          · exact .inl (.inr (.inl ⟨a, xs, i, z, rfl, rfl, s, e', A g H _ Ext.refl R rz⟩))
        · exact A.elim
      · exact A.elim
    · split at A
      · rename_i l k hl hk
        split at A
        · rename_i w e
          obtain ⟨i, a, ks, rfl, rfl, hm, hi, ha, d⟩ := dicOf_ok R rv hl
          obtain ⟨z, e', rz⟩ := (DR.get hk d).1 w e
          refine .inr ⟨a, z, rfl, ?_, A g H _ Ext.refl R rz⟩
          rw [key_V ru hk, ← e']
          exact DGet.k ha
        · exact A.elim
      · exact A.elim
theorem ge_ix {W : WX} {a b : Expr} {da db : Den} {pos : Pos} (hu : X.A.units + 1 < cLine) (ha : GE X W a da) (hb : GE X W b db) (hs : PlainIx b := by exact fun _ _ => rfl) : GE X W (.Subscript a b pos) (dBin vIx da db) := by
  refine PE.imp (pe_ix (ix_seq.or (ix_dict hu)) ha hb hs) fun σ H Q ⟨g, l, h, S, R, A⟩ => ?_
  refine tG_of S R A fun v h1 g1 H1 x E S1 R1 r1 A1 => ?_
  refine tG_of S1 R1 A1 fun u h2 g2 H2 y E2 S2 R2 r2 A2 => ?_
  exact vIx_ok R2 (r1.ext R1 E2) r2 A2

/-! ### len, truth -/
def vLen (v : Val) (h : Hv) : Res Val := match v with
  | .str s => if s.length ≤ lineN then .ok (.int s.length) h else .fail
  | v => match seqOf h v with
    | some l => .ok (.int l.length) h
    | none => match dicOf h v with
      | some l => .ok (.int l.length) h
      | none => .fail
theorem call_lenG : CallR X (.builtin "len") (fun xs H Q => (∃ x n, xs = [x] ∧ LenV X.K x H n ∧ Q (.int n) H) ∨ ∃ a kvs, xs = [.ref a] ∧ Rd H a (.dK kvs) ∧ Q (.int kvs.length) H) := by
  intro pins s σ H xs us Q I r h
  rcases h with h | ⟨a, kvs, rfl, e, q⟩
  · exact call_len pins s σ H xs us Q I r h
  · obtain ⟨u, rfl, ru⟩ := vals1 r
    obtain rfl : u = Value.ref a := ru
    exact d_len I e fun t s' I' => ⟨.int kvs.length, H, I', ⟨_, rfl⟩, q⟩
def dLen (d : Den) : Den := fun l h => (d l h).bind vLen
theorem ge_len {W : WX} {e : Expr} {d : Den} {x : Str} {p pos : Pos} (he : GE X W e d) (hm : X.mg x = none) (hg : Gl X x := by rfl) (hv : bootBuiltins x = some (.builtin "len") := by decide +kernel) (hn : x ≠ "__name__" := by decide +kernel) (hdb : (x == ("__debug__" : Str)) = false := by decide +kernel)
    (hst : starEach [e] X.env = (false, eval e X.env) :: starEach [] X.env := by rfl) (hpl : (backTo pos (starEach [] X.env)).any (·.1) = false := by rfl) : GE X W (.Call (.Name x p) [e] [] pos) (dLen d) := by
  refine PE.imp (pe_callB call_lenG hg hm hv (pa_cons he pa_nil hst) hn hdb hst hpl) fun σ H Q ⟨g, l, h, S, R, A⟩ => ?_
  refine tG_of S R A fun v h1 g1 H1 x E S1 R1 r1 A1 => ?_
  show _ ∨ _
  unfold vLen at A1
  split at A1
  · rename_i s
    split at A1
    · rename_i hl
      simp only [VR] at r1
      subst r1
      exact .inl ⟨_, _, rfl, ⟨by rw [sOf_len]; exact line_ok hl, rfl⟩, by rw [sOf_len]; exact A1 g1 H1 _ Ext.refl R1 (by simp only [VR])⟩
    · exact A1.elim
  · split at A1
    · rename_i k hk
      obtain ⟨a, xs, rfl, s, r⟩ := seqOf_ok R1 r1 hk
      refine .inl ⟨_, xs.length, rfl, ?_, by rw [← r.length]; exact A1 g1 H1 _ Ext.refl R1 (by simp only [VR])⟩
      rcases s with s | s
      · exact .inl ⟨xs, s, rfl⟩
      · exact .inr ⟨xs, s, rfl⟩
    · split at A1
      · rename_i k hk
        obtain ⟨i, a, ks, rfl, rfl, hm, hi, ha, d⟩ := dicOf_ok R1 r1 hk
        exact .inr ⟨a, ks, rfl, .inl ha, by rw [← d.length]; exact A1 g1 H1 _ Ext.refl R1 (by simp only [VR])⟩
      · exact A1.elim
def vTru (v : Val) (h : Hv) : Res Bool := match v with
  | .non => .ok false h
  | .bl b => .ok b h
  | .int i => .ok (i != 0) h
  | .str s => if s.length ≤ lineN then .ok (!s.isEmpty) h else .fail
  | v => match seqOf h v with
    | some l => .ok (!l.isEmpty) h
    | none => match dicOf h v with
      | some l => .ok (!l.isEmpty) h
      | none => .fail
theorem isEmpty_len {α β : Type} {l : List α} {l' : List β} (h : l.length = l'.length) : l.isEmpty = l'.isEmpty := by
  cases l <;> cases l' <;> simp_all
theorem vTru_ok {W : WX} {g : Gh} {H : Hp} {h : Hv} {σ : L2.St} {v : Val} {x : V} {Q : Bool → Hp → Prop} (R : HR X.K g H h) (rv : VR X.K g H v x) (A : After X.K W br σ g H Q (vTru v h)) : ∃ k, TruV X.K x H k ∧ Q k H := by
  unfold vTru at A
  split at A
  · simp only [VR] at rv; subst rv; exact ⟨_, rfl, A g H _ Ext.refl R rfl⟩
  · simp only [VR] at rv; subst rv; exact ⟨_, rfl, A g H _ Ext.refl R rfl⟩
  · simp only [VR] at rv; subst rv; exact ⟨_, rfl, A g H _ Ext.refl R rfl⟩
  · rename_i s
    split at A
    · rename_i hl
      simp only [VR] at rv
      subst rv
      refine ⟨_, ⟨by rw [sOf_len]; exact line_ok hl, rfl⟩, ?_⟩
      rw [sOf_len]
      have e : ((s.length : Int) != 0) = !s.isEmpty := by cases s <;> simp <;> omega
      rw [e]
      exact A g H _ Ext.refl R rfl
    · exact A.elim
  · split at A
    · rename_i k hk
      obtain ⟨a, xs, rfl, s, r⟩ := seqOf_ok R rv hk
      refine ⟨!xs.isEmpty, ?_, by rw [← isEmpty_len r.length]; exact A g H _ Ext.refl R rfl⟩
      rcases s with s | s
      · exact .inl ⟨xs, s, rfl⟩
      · exact .inr (.inl ⟨xs, s, rfl⟩)
    · split at A
      · rename_i k hk
        obtain ⟨i, a, ks, rfl, rfl, hm, hi, ha, d⟩ := dicOf_ok R rv hk
        exact ⟨!ks.isEmpty, .inr (.inr ⟨ks, ha, rfl⟩), by rw [← isEmpty_len d.length]; exact A g H _ Ext.refl R rfl⟩
      · exact A.elim
def dTru (d : Den) : DenG Bool := fun l h => (d l h).bind vTru
theorem gt_tru {W : WX} {e : Expr} {d : Den} (he : GE X W e d) (hs : ∀ whole, isTrue e X.env whole = (do let v ← whole; standAt e.pos; holding [v] (truthy v)) := by intro _; rfl) : GT X W e (dTru d) := by
  refine PT.imp (pt_truth he hs) fun σ H Q ⟨g, l, h, S, R, A⟩ => ?_
  exact tG_of S R A fun v h1 g1 H1 x E S1 R1 r1 A1 => vTru_ok R1 r1 A1
end
end GH
set_option Elab.async false
set_option linter.all false
set_option maxRecDepth 100000
set_option maxHeartbeats 1000000
set_option autoImplicit false
/-! Loops and comprehensions. -/
namespace GH
open PySem PySem.Spec PyProof.Rows L2
variable [TheWorld]

/-- behind a loop's body -/
def SRes.turn (r : SRes) (k : Stm) : SRes := match r with
  | .nx l h => k l h
  | .ct l h => k l h
  | .bk l h => .nx l h
  | r => r
@[simp] theorem SRes.turn_nx (l : Loc) (h : Hv) (k : Stm) : (SRes.nx l h).turn k = k l h := rfl
@[simp] theorem SRes.turn_ct (l : Loc) (h : Hv) (k : Stm) : (SRes.ct l h).turn k = k l h := rfl
@[simp] theorem SRes.turn_bk (l : Loc) (h : Hv) (k : Stm) : (SRes.bk l h).turn k = .nx l h := rfl
@[simp] theorem SRes.turn_rt (v : Val) (h : Hv) (k : Stm) : (SRes.rt v h).turn k = .rt v h := rfl
@[simp] theorem SRes.turn_exc (e : Ex) (l : Loc) (h : Hv) (k : Stm) : (SRes.exc e l h).turn k = .exc e l h := rfl
@[simp] theorem SRes.turn_fail (k : Stm) : SRes.fail.turn k = .fail := rfl

/-! ### while -/
def whileN : Nat → DenG Bool → Stm → Stm
  | 0, _, _ => fun _ _ => .fail
  | n + 1, c, b => fun l h => (c l h).to l fun t h1 => if t = true then (b l h1).turn (whileN n c b) else .nx l h1
theorem whileN_mono (c : DenG Bool) (b : Stm) : ∀ (n : Nat) (l : Loc) (h : Hv), whileN n c b l h ≠ .fail → whileN (n + 1) c b l h = whileN n c b l h
  | 0, l, h, e => absurd rfl e
  | n + 1, l, h, e => by
    show (c l h).to l (fun t h1 => if t = true then (b l h1).turn (whileN (n + 1) c b) else .nx l h1) = (c l h).to l (fun t h1 => if t = true then (b l h1).turn (whileN n c b) else .nx l h1)
    have e : (c l h).to l (fun t h1 => if t = true then (b l h1).turn (whileN n c b) else .nx l h1) ≠ .fail := e
    cases ec : c l h with
    | ok t h1 =>
      rw [ec] at e
      simp only [Res.to_ok] at e ⊢
      cases t with
      | false => rfl
      | true =>
        simp only [if_true] at e ⊢
        cases eb : b l h1 with
        | nx l2 h2 => rw [eb] at e; exact whileN_mono c b n l2 h2 e
        | ct l2 h2 => rw [eb] at e; exact whileN_mono c b n l2 h2 e
        | bk l2 h2 => rfl
        | rt v h2 => rfl
        | exc x l2 h2 => rfl
        | fail => rfl
    | exc x h1 => rfl
    | fail => rfl
theorem whileN_le (c : DenG Bool) (b : Stm) {n : Nat} {l : Loc} {h : Hv} (e : whileN n c b l h ≠ .fail) : ∀ k, whileN (n + k) c b l h = whileN n c b l h
  | 0 => rfl
  | k + 1 => by
    have ih := whileN_le c b e k
    rw [← Nat.add_assoc, whileN_mono c b (n + k) l h (by rw [ih]; exact e), ih]
open Classical in
noncomputable def sWhile (c : DenG Bool) (b : Stm) : Stm := fun l h => if ex : ∃ n, whileN n c b l h ≠ .fail then whileN (Classical.choose ex) c b l h else .fail
theorem sWhile_of {c : DenG Bool} {b : Stm} {n : Nat} {l : Loc} {h : Hv} (e : whileN n c b l h ≠ .fail) : sWhile c b l h = whileN n c b l h := by
  have ex : ∃ n, whileN n c b l h ≠ .fail := ⟨n, e⟩
  unfold sWhile
  rw [dif_pos ex]
  have e' := Classical.choose_spec ex
  generalize Classical.choose ex = m at e'
  rcases Nat.le_total n m with q | q
  · obtain ⟨k, rfl⟩ := Nat.exists_eq_add_of_le q
    exact whileN_le c b e k
  · obtain ⟨k, rfl⟩ := Nat.exists_eq_add_of_le q
    exact (whileN_le c b e' k).symm
theorem sWhile_ne {c : DenG Bool} {b : Stm} {l : Loc} {h : Hv} (e : sWhile c b l h ≠ .fail) : ∃ n, whileN n c b l h ≠ .fail ∧ sWhile c b l h = whileN n c b l h := by
  unfold sWhile at e
  split at e
  · rename_i ex
    exact ⟨_, e, by unfold sWhile; rw [dif_pos ex]⟩
  · exact absurd rfl e
/-- the loop's own equation -/
theorem sWhile_eq (c : DenG Bool) (b : Stm) (l : Loc) (h : Hv) : sWhile c b l h = (c l h).to l fun t h1 => if t = true then (b l h1).turn (sWhile c b) else .nx l h1 := by
  cases ec : c l h with
  | exc x h1 =>
    have e : whileN 1 c b l h = .exc x l h1 := by show (c l h).to l _ = _; rw [ec]; rfl
    rw [sWhile_of (n := 1) (by rw [e]; exact fun z => nomatch z), e]
    rfl
  | fail =>
    by_cases e : sWhile c b l h = .fail
    · rw [e]; rfl
    · obtain ⟨n, e1, e2⟩ := sWhile_ne e
      cases n with
      | zero => exact absurd rfl e1
      | succ n => exact absurd (by show (c l h).to l _ = _; rw [ec]; rfl) e1
  | ok t h1 =>
    simp only [Res.to_ok]
    cases t with
    | false =>
      have e : whileN 1 c b l h = .nx l h1 := by show (c l h).to l _ = _; rw [ec]; rfl
      rw [sWhile_of (n := 1) (by rw [e]; exact fun z => nomatch z), e]
      rfl
    | true =>
      simp only [if_true]
      have step : ∀ n, whileN (n + 1) c b l h = (b l h1).turn (whileN n c b) := fun n => by show (c l h).to l _ = _; rw [ec]; rfl
      have ends : ∀ r : SRes, r ≠ .fail → (∀ k, (b l h1).turn k = r) → sWhile c b l h = (b l h1).turn (sWhile c b) := fun r nr hr => by
        rw [sWhile_of (n := 1) (by rw [step, hr]; exact nr), step, hr, hr]
      have goes : ∀ l2 h2, (∀ k : Stm, (b l h1).turn k = k l2 h2) → sWhile c b l h = (b l h1).turn (sWhile c b) := fun l2 h2 hk => by
        rw [hk]
        by_cases e : sWhile c b l2 h2 = .fail
        · rw [e]
          by_cases e' : sWhile c b l h = .fail
          · exact e'
          · obtain ⟨n, e1, e2⟩ := sWhile_ne e'
            cases n with
            | zero => exact absurd rfl e1
            | succ n =>
              rw [step, hk] at e1
              exact absurd (sWhile_of e1 ▸ e) e1
        · obtain ⟨n, e1, e2⟩ := sWhile_ne e
          rw [sWhile_of (n := n + 1) (by rw [step, hk]; exact e1), step, hk, e2]
      cases eb : b l h1 with
      | nx l2 h2 => rw [← eb]; exact goes l2 h2 fun k => by rw [eb]; rfl
      | ct l2 h2 => rw [← eb]; exact goes l2 h2 fun k => by rw [eb]; rfl
      | bk l2 h2 => rw [← eb]; exact ends (.nx l2 h2) (fun z => nomatch z) fun k => by rw [eb]; rfl
      | rt v h2 => rw [← eb]; exact ends (.rt v h2) (fun z => nomatch z) fun k => by rw [eb]; rfl
      | exc x l2 h2 => rw [← eb]; exact ends (.exc x l2 h2) (fun z => nomatch z) fun k => by rw [eb]; rfl
      | fail =>
        show sWhile c b l h = .fail
        by_cases e : sWhile c b l h = .fail
        · exact e
        · obtain ⟨n, e1, e2⟩ := sWhile_ne e
          cases n with
          | zero => exact absurd rfl e1
          | succ n => exact absurd (by rw [step, eb]; rfl) e1
section
variable {X : Cx} {W : WX}
theorem gs_while {c : Expr} {body : List Stmt} {dc : DenG Bool} {db : Stm} {pos : Pos} (hp : PassesOwn (model X.prog X.w) X.A X.env X.xe) (hc : GT X W c dc) (hb : GSs X W body db) : GS X W (.While c body [] pos) (sWhile dc db) := by
  refine PS.imp (ps_while hp hc hb) fun D σ H ⟨g, l, h, S, R, A⟩ => ?_
  have nf : sWhile dc db l h ≠ .fail := fun e => by rw [e] at A; exact A
  obtain ⟨n0, e0, e1⟩ := sWhile_ne nf
  rw [e1] at A
  refine ⟨fun m σ H => ∃ g l h, SR X.K g H l σ ∧ HR X.K g H h ∧ AfterS X.K W g H D (whileN m dc db l h), ⟨n0, g, l, h, S, R, A⟩, ?_⟩
  rintro m σ H ⟨g, l, h, S, R, A⟩
  cases m with
  | zero => exact A.elim
  | succ m =>
    have A : AfterS X.K W g H D ((dc l h).to l fun t h1 => if t = true then (db l h1).turn (whileN m dc db) else .nx l h1) := A
    refine tG_to S R A fun t h1 g1 H1 x E S1 R1 r1 A1 => ?_
    obtain rfl : t = x := r1
    cases t with
    | false => exact A1 g1 H1 σ Ext.refl R1 S1
    | true =>
      simp only [if_true] at A1 ⊢
      refine ⟨fun σ' H' => ∃ g l h, SR X.K g H' l σ' ∧ HR X.K g H' h ∧ AfterS X.K W g H' D (whileN m dc db l h), fun σ' H' q => ⟨m, Nat.lt_succ_self m, q⟩, g1, l, h1, S1, R1, ?_⟩
      cases eb : db l h1 with
      | nx l2 h2 => rw [eb] at A1; exact fun g' H' σ' E' R' S' => ⟨g', l2, h2, S', R', AfterS.ext E' A1⟩
      | ct l2 h2 => rw [eb] at A1; exact fun g' H' σ' E' R' S' => ⟨g', l2, h2, S', R', AfterS.ext E' A1⟩
      | bk l2 h2 => rw [eb] at A1; exact A1
      | rt v h2 => rw [eb] at A1; exact A1
      | exc x l2 h2 => rw [eb] at A1; exact A1
      | fail => rw [eb] at A1; exact A1

/-! ### what is walked -/
/-- the items, and the object of ours that must stay as it is -/
abbrev Src := List Val × Option Nat
def srcOk (s : Src) (h : Hv) : Prop := match s.2 with
  | none => True
  | some j => h[j]? = some (.lst s.1)
/-- the iterator J serves these items -/
def Serves (K : PySem.W.Frag) (J : It) (g0 : Gh) (H0 : Hp) (s : Src) : Prop := ∀ g H h, ExtS g0 H0 g H → HR K g H h → srcOk s h → ∀ i,
  (∀ v, s.1[i]? = some v → J.go i H ∧ ∀ x H', J.yld i H x H' → Ext g H g H' ∧ HR K g H' h ∧ VR K g H' v x) ∧ (i = s.1.length → J.stop i H)
/-- what follows an iterator -/
def AfterI (K : PySem.W.Frag) (W : WX) (σ : L2.St) (g : Gh) (H : Hp) (R : It → Hp → Prop) : Res Src → Prop
  | .ok s h' => srcOk s h' ∧ ∀ g' H' J, Ext g H g' H' → HR K g' H' h' → s.1.length ≤ sizeLine → Serves K J g' H' s → R J H'
  | .exc e h' => ∀ g' H' cls d, Ext g H g' H' → HR K g' H' h' → ER K g' H' e cls d → W cls d σ H'
  | .fail => False
def tI (K : PySem.W.Frag) (W : WX) (d : DenG Src) : TI := fun σ H R => ∃ g l h, SR K g H l σ ∧ HR K g H h ∧ AfterI K W σ g H R (d l h)
def GI (X : Cx) (W : WX) (tg iter : Expr) (d : DenG Src) : Prop := PI X tg iter (tI X.K W d)
theorem PI.imp {tg e : Expr} {t t' : TI} (p : PI X tg e t) (h : ∀ pins s σ H R, Inv X pins σ H s → t' σ H R → t σ H R) : PI X tg e t' := ⟨fun pins s σ H R I q => p.run pins s σ H R I (h pins s σ H R I q)⟩
theorem PI.or {tg e : Expr} {t t' : TI} (p : PI X tg e t) (p' : PI X tg e t') : PI X tg e fun σ H R => t σ H R ∨ t' σ H R := ⟨fun pins s σ H R I q => by
  rcases q with q | q
  · exact p.run pins s σ H R I q
  · exact p'.run pins s σ H R I q⟩

/-! ### for -/
open Classical in
noncomputable def forL (t : Tg) (b : Stm) (s : Src) : List Val → Stm
  | [] => fun l h => if srcOk s h then .nx l h else .fail
  | x :: r => fun l h => if srcOk s h then (match t x l h with
    | .ok l1 h1 => (b l1 h1).turn (forL t b s r)
    | .exc e l1 h1 => .exc e l1 h1
    | .fail => .fail) else .fail
noncomputable def sFor (di : DenG Src) (t : Tg) (b : Stm) : Stm := fun l h => (di l h).to l fun s h1 => forL t b s s.1 l h1
theorem gs_for {tg iter : Expr} {body : List Stmt} {di : DenG Src} {t : Tg} {db : Stm} {pos : Pos} (hp : PassesOwn (model X.prog X.w) X.A X.env X.xe) (hc : X.calm = true) (hi : GI X W tg iter di) (hg : GG X W tg t) (hb : GSs X W body db)
    (hs : ∀ x, foldedSetIterable iter X.env x = pure x := by intro _; rfl) : GS X W (.For tg iter body [] pos) (sFor di t db) := by
  refine PS.imp (ps_for hp hc hi hg hb hs) fun D σ H ⟨g, l, h, S, R, A⟩ => ?_
  refine ⟨g, l, h, S, R, ?_⟩
  unfold sFor at A
  unfold AfterI
  cases e : di l h with
  | exc x h1 => rw [e] at A; exact fun g' H' c d E' R' r => A g' H' σ c d E' R' (S.ext R E') r
  | fail => rw [e] at A; exact A
  | ok s h1 =>
    rw [e] at A
    simp only [Res.to_ok] at A
    have ok1 : srcOk s h1 := by
      cases hs1 : s.1 with
      | nil =>
        rw [hs1] at A
        simp only [forL] at A
        split at A
        · assumption
        · exact A.elim
      | cons x r =>
        rw [hs1] at A
        simp only [forL] at A
        split at A
        · assumption
        · exact A.elim
    refine ⟨ok1, fun g1 H1 J E1 R1 hz sv => ?_⟩
    refine ⟨fun i m σ H => ∃ g l h, Ext g1 H1 g H ∧ SR X.K g H l σ ∧ HR X.K g H h ∧ m = s.1.length - i ∧ i ≤ s.1.length ∧ AfterS X.K W g H D (forL t db s (s.1.drop i) l h), ⟨s.1.length, g1, l, h1, Ext.refl, S.ext R E1, R1, by simp, Nat.zero_le _, by simpa using AfterS.ext E1 A⟩, ?_⟩
    rintro i m σ H ⟨g, l, h, E, S, R, rfl, hil, A⟩
    cases hd : s.1.drop i with
    | nil =>
      have hle : s.1.length ≤ i := List.drop_eq_nil_iff.mp hd
      rw [hd] at A
      simp only [forL] at A
      split at A
      · rename_i ok
        exact .inl ⟨(sv g H h E.s R ok i).2 (Nat.le_antisymm hil hle), A g H σ Ext.refl R S⟩
      · exact A.elim
    | cons v r =>
      have hlt : i < s.1.length := by
        by_cases q : i < s.1.length
        · exact q
        · rw [List.drop_eq_nil_iff.mpr (by omega)] at hd; cases hd
      have hv : s.1[i]? = some v := by
        have q := congrArg List.head? hd
        rw [List.head?_drop] at q
        simpa using q
      have hr : s.1.drop (i + 1) = r := by
        have q := congrArg List.tail hd
        rw [List.tail_drop] at q
        simpa using q
      rw [hd] at A
      simp only [forL] at A
      split at A
      · rename_i ok
        obtain ⟨go, yl⟩ := (sv g H h E.s R ok i).1 v hv
        refine .inr ⟨go, fun σ' H' => ∃ g l h, Ext g1 H1 g H' ∧ SR X.K g H' l σ' ∧ HR X.K g H' h ∧ i + 1 ≤ s.1.length ∧ AfterS X.K W g H' D (forL t db s (s.1.drop (i + 1)) l h), fun σ' H' ⟨g, l, h, q1, q2, q3, q4, q5⟩ => ⟨s.1.length - (i + 1), by omega, g, l, h, q1, q2, q3, rfl, q4, q5⟩, fun x H' y => ?_⟩
        obtain ⟨E2, R2, rx⟩ := yl x H' y
        refine ⟨g, l, h, v, S.ext R E2, R2, rx, ?_⟩
        have A2 := AfterS.ext E2 A
        cases et : t v l h with
        | exc x l1 h1 => rw [et] at A2; exact A2
        | fail => rw [et] at A2; exact A2
        | ok l2 h2 =>
          rw [et] at A2
          simp only at A2
          intro g3 H3 σ3 E3 R3 S3
          refine ⟨g3, l2, h2, S3, R3, ?_⟩
          have A3 := AfterS.ext E3 A2
          have E03 := (E.trans E2).trans E3
          cases eb : db l2 h2 with
          | nx l4 h4 => rw [eb] at A3; exact fun g' H' σ' E' R' S' => ⟨g', l4, h4, E03.trans E', S', R', hlt, by rw [hr]; exact AfterS.ext E' A3⟩
          | ct l4 h4 => rw [eb] at A3; exact fun g' H' σ' E' R' S' => ⟨g', l4, h4, E03.trans E', S', R', hlt, by rw [hr]; exact AfterS.ext E' A3⟩
          | bk l4 h4 => rw [eb] at A3; exact A3
          | rt v4 h4 => rw [eb] at A3; exact A3
          | exc x4 l4 h4 => rw [eb] at A3; exact A3
          | fail => rw [eb] at A3; exact A3
      · exact A.elim
end
end GH
set_option Elab.async false
set_option linter.all false
set_option maxRecDepth 100000
set_option maxHeartbeats 1000000
set_option autoImplicit false
/-! What may be walked; list comprehensions. -/
namespace GH
open PySem PySem.Spec PyProof.Rows L2
variable [TheWorld]

section
variable {K : PySem.W.Frag} {g0 g : Gh} {H0 H : Hp}
theorem sqL_ext {a : Addr} {xs : List V} {h : Hv} (R : HR K g0 H0 h) (E : ExtS g0 H0 g H) (na : ¬ g0.own a) (s : SqL K H0 a xs) : SqL K H a xs := by
  rcases s with s | s
  · exact .inl (E.rd na s)
  · exact .inr s
theorem sqT_ext {a : Addr} {xs : List V} {h : Hv} (R : HR K g0 H0 h) (E : ExtS g0 H0 g H) (s : SqT K H0 a xs) : SqT K H a xs := by
  rcases s with s | s
  · exact .inl (E.rd (R.tup_own s) s)
  · exact .inr s
/-- a walk whose items stay -/
theorem serves_of {J : It} {items : List Val} {src : Option Nat} {n : Nat} (hn : n = items.length)
    (hw : ∀ g H h, ExtS g0 H0 g H → HR K g H h → srcOk (items, src) h → ∃ (G : Hp → Prop) (Y : Nat → Hp → V → Hp → Prop), Walk J n G Y ∧ G H ∧ ∀ i x H' v, items[i]? = some v → Y i H x H' → Ext g H g H' ∧ HR K g H' h ∧ VR K g H' v x) : Serves K J g0 H0 (items, src) := by
  intro g H h E R ok i
  obtain ⟨G, Y, w, gh, hy⟩ := hw g H h E R ok
  refine ⟨fun v hv => ?_, fun hi => ?_⟩
  · have hi : i < n := by rw [hn]; exact (List.getElem?_eq_some_iff.mp hv).1
    exact ⟨w.goes i H hi gh, fun x H' y => hy i x H' v hv (w.yields i H x H' hi gh y)⟩
  · rw [hi]
    show J.stop items.length H
    rw [← hn]
    exact w.stops H gh
theorem serves_list {a : Addr} {xs : List V} {items : List Val} {h : Hv} (R0 : HR K g0 H0 h) (na : ¬ g0.own a) (s : SqL K H0 a xs) (r : VRs K g0 H0 items xs) : Serves K (Itl K a) g0 H0 (items, none) :=
  serves_of (n := xs.length) r.length.symm fun g H h E R _ => ⟨_, _, walk_list, sqL_ext R0 E na s, fun i x H' v hv y => by
    obtain ⟨rfl, e⟩ := y
    obtain ⟨z, e1, e2⟩ := r.get hv
    rw [e] at e1; cases e1
    exact ⟨Ext.refl, R, e2.extS R0 E⟩⟩
theorem serves_fz {a : Addr} {xs : List V} {items : List Val} {h : Hv} (R0 : HR K g0 H0 h) (s : FzL K H0 a xs) (r : VRs K g0 H0 items xs) : Serves K (Itl K a) g0 H0 (items, none) :=
  serves_of (n := xs.length) r.length.symm fun g H h E R _ => ⟨_, _, walk_list, (s.imp fun o s => E.keep _ _ s (R0.not_own s fun z => z)).sq, fun i x H' v hv y => by
    obtain ⟨rfl, e⟩ := y
    obtain ⟨z, e1, e2⟩ := r.get hv
    rw [e] at e1; cases e1
    exact ⟨Ext.refl, R, e2.extS R0 E⟩⟩
theorem serves_tup {a : Addr} {xs : List V} {items : List Val} {h : Hv} (R0 : HR K g0 H0 h) (s : SqT K H0 a xs) (r : VRs K g0 H0 items xs) : Serves K (Itt K a) g0 H0 (items, none) :=
  serves_of (n := xs.length) r.length.symm fun g H h E R _ => ⟨_, _, walk_tup, sqT_ext R0 E s, fun i x H' v hv y => by
    obtain ⟨rfl, e⟩ := y
    obtain ⟨z, e1, e2⟩ := r.get hv
    rw [e] at e1; cases e1
    exact ⟨Ext.refl, R, e2.extS R0 E⟩⟩
/-- a list of ours that must stay -/
theorem serves_ref {a : Addr} {items : List Val} {j : Nat} (hm : g0.m[j]? = some a) : Serves K (Itl K a) g0 H0 (items, some j) :=
  serves_of (n := items.length) rfl fun g H h E R ok => by
    have ok : h[j]? = some (.lst items) := ok
    obtain ⟨t, em, _⟩ := E.m
    have hm' : g.m[j]? = some a := by rw [em, List.getElem?_append_left (List.getElem?_eq_some_iff.mp hm).1]; exact hm
    obtain ⟨xs, e1, r⟩ := ref_at R ok hm'
    refine ⟨fun H => SqL K H a xs, YAt xs, by rw [r.length]; exact walk_list, SqL.of e1, fun i x H' v hv y => ?_⟩
    obtain ⟨rfl, e⟩ := y
    obtain ⟨z, e1, e2⟩ := r.get hv
    rw [e] at e1; cases e1
    exact ⟨Ext.refl, R, e2⟩
theorem serves_str {z : List Nat} : Serves K (Its (sOf z)) g0 H0 (z.map fun c => .str [c], none) :=
  serves_of (n := (sOf z).cps.size) (by simp [sOf]) fun g H h E R _ => ⟨_, _, walk_str, trivial, fun i x H' v hv y => by
    obtain ⟨rfl, c, e, rfl⟩ := y
    rw [List.getElem?_map] at hv
    simp [sOf] at e
    rw [e] at hv
    simp at hv
    subst hv
    exact ⟨Ext.refl, R, by simp only [VR]; rfl⟩⟩
/-- lo, lo + 1, .. -/
def rangeL (lo : Int) (n : Nat) : List Val := (List.range n).map fun i => .int (lo + (i : Nat))
theorem serves_range {lo : Int} {n : Nat} : Serves K (Itr lo n) g0 H0 (rangeL lo n, none) :=
  serves_of (n := n) (by simp [rangeL]) fun g H h E R _ => ⟨_, _, walk_range, trivial, fun i x H' v hv y => by
    obtain ⟨rfl, rfl⟩ := y
    unfold rangeL at hv
    rw [List.getElem?_map] at hv
    by_cases hi : i < n
    · rw [List.getElem?_range hi] at hv
      simp at hv
      subst hv
      exact ⟨Ext.refl, R, by simp only [VR]⟩
    · rw [List.getElem?_eq_none (by simp; omega)] at hv
      cases hv⟩
/-- pairs of two lists' items, each a new tuple -/
theorem serves_pair {J : It} {xs ys : List V} {l k : List Val} {n : Nat} {G : Hp → Prop} {h : Hv} (R0 : HR K g0 H0 h) (hn : n = (l.zip k).length) (w : Walk J n G (YPair (fun i => xs[i]?) (fun i => ys[i]?))) (hG : ∀ g H, ExtS g0 H0 g H → G H) (r : VRs K g0 H0 l xs) (q : VRs K g0 H0 k ys) :
    Serves K J g0 H0 ((l.zip k).map fun p => .tup [p.1, p.2], none) :=
  serves_of (n := n) (by simpa using hn) fun g H h E R _ => ⟨_, _, w, hG g H E, fun i x H' v hv y => by
    obtain ⟨T, x1, y1, rfl, nT, rfl, e1, e2⟩ := y
    rw [List.getElem?_map] at hv
    cases ez : (l.zip k)[i]? with
    | none => rw [ez] at hv; cases hv
    | some p =>
      rw [ez] at hv
      simp at hv
      subst hv
      obtain ⟨f1, f2⟩ := List.getElem?_zip_eq_some.mp ez
      obtain ⟨a1, b1, c1⟩ := r.get f1
      obtain ⟨a2, b2, c2⟩ := q.get f2
      have e1 : xs[i]? = some x1 := e1
      have e2 : ys[i]? = some y1 := e2
      rw [e1] at b1; cases b1
      rw [e2] at b2; cases b2
      obtain ⟨E1, R1⟩ := R.grow (o := .tup [x1, y1]) nT
      refine ⟨E1, R1, ?_⟩
      simp only [VR]
      exact ⟨T, _, rfl, SqT.of upd_same, .cons ((c1.extS R0 E).ext R E1) (.cons ((c2.extS R0 E).ext R E1) .nil)⟩⟩
end
/-! ### for x in e -/
def vIter (v : Val) (h : Hv) : Res Src := match v with
  | .tup l => .ok (l, none) h
  | .lst l => .ok (l, none) h
  | .fz l => .ok (l, none) h
  | .str s => if s.length ≤ lineN then .ok (s.map (fun c => .str [c]), none) h else .fail
  | .ref i => match h[i]? with
    | some (.lst l) => .ok (l, some i) h
    | _ => .fail
  | _ => .fail
def iSeq (d : Den) : DenG Src := fun l h => (d l h).bind vIter
/-- from an expression's result on, for what walks -/
theorem tG_I {K : PySem.W.Frag} {W : WX} {σ : L2.St} {g : Gh} {H : Hp} {l : Loc} {h : Hv} {α β : Type} {rel : Gh → Hp → α → β → Prop} {d : DenG α} {k : α → Hv → Res Src} {R : It → Hp → Prop} {R' : β → Hp → Prop} (S : SR K g H l σ) (hr : HR K g H h)
    (A : AfterI K W σ g H R ((d l h).bind k))
    (hk : ∀ v h1 g1 H1 x, Ext g H g1 H1 → SR K g1 H1 l σ → HR K g1 H1 h1 → rel g1 H1 v x → AfterI K W σ g1 H1 R (k v h1) → R' x H1) : tG K W rel d σ H R' := by
  refine ⟨g, l, h, S, hr, ?_⟩
  cases e : d l h with
  | ok v h1 =>
    rw [e] at A
    simp only [Res.bind_ok] at A
    intro g' H' x E R1 r
    refine hk v h1 g' H' x E (S.ext hr E) R1 r ?_
    cases ek : k v h1 with
    | ok s h2 => rw [ek] at A; exact ⟨A.1, fun g2 H2 J E2 => A.2 g2 H2 J (E.trans E2)⟩
    | exc x h2 => rw [ek] at A; exact fun g2 H2 c d E2 => A g2 H2 c d (E.trans E2)
    | fail => rw [ek] at A; exact A
  | exc x h1 => rw [e] at A; exact A
  | fail => rw [e] at A; exact A
section
variable {X : Cx} {W : WX}
theorem gi_seq {tg e : Expr} {d : Den} (he : GE X W e d) : GI X W tg e (iSeq d) := by
  refine ⟨fun pins s σ H R I ⟨g, l, h, S, Rh, A⟩ => ?_⟩
  have start : tG X.K W (vr X.K) d σ H fun x H1 => ∃ v h1 g1, HR X.K g1 H1 h1 ∧ VR X.K g1 H1 v x ∧ AfterI X.K W σ g1 H1 R (vIter v h1) :=
    tG_I S Rh A fun v h1 g1 H1 x E S1 R1 r1 A1 => ⟨v, h1, g1, R1, r1, A1⟩
  refine thn (he.run pins s σ H _ I start) fun u s1 ⟨x, H1, I1, r1, v, h1, g1, R1, rv, A1⟩ => ?_
  have lists : ∀ a xs items, x = .ref a → ¬ g1.own a → SqL X.K H1 a xs → VRs X.K g1 H1 items xs → AfterI X.K W σ g1 H1 R (.ok (items, none) h1) → wpAny (model X.prog X.w) X.A (pyIter u) (PIE X pins σ tg R) X.xe s1 := by
    rintro a xs items rfl na hq r A1
    cases r1
    obtain ⟨its, rv, p, hz⟩ := I1.list hq
    refine wpAny_pyIter_list p.isList (pi_one (tk := s1.toks) I1 _ (turn_list _ _) ⟨_, Heap.get?_push_size _ rfl, rfl, rfl⟩ (A1.2 g1 H1 _ Ext.refl R1 (by show items.length ≤ _; rw [r.length]; exact hz) (serves_list R1 na hq r)))
  cases v with
  | tup items =>
    simp only [VR] at rv
    obtain ⟨a, xs, rfl, hq, r⟩ := rv
    cases r1
    obtain ⟨its, rv, p, hz⟩ := I1.tuple hq
    exact wpAny_pyIter_tuple (show s1.heap.IsTuple a its.toArray from p) (pi_one (tk := s1.toks) I1 _ (turn_tuple _ _) ⟨_, Heap.get?_push_size _ rfl, rfl, rfl⟩ (A1.2 g1 H1 _ Ext.refl R1 (by show items.length ≤ _; rw [r.length]; exact hz) (serves_tup R1 hq r)))
  | lst items =>
    simp only [VR] at rv
    obtain ⟨a, xs, rfl, na, hq, r⟩ := rv
    exact lists a xs items rfl na (SqL.of hq) r A1
  | fz items =>
    simp only [VR] at rv
    obtain ⟨a, xs, rfl, hq, r⟩ := rv
    cases r1
    obtain ⟨its, rv, p, hz⟩ := I1.list hq.sq
    exact wpAny_pyIter_list p.isList (pi_one (tk := s1.toks) I1 _ (turn_list _ _) ⟨_, Heap.get?_push_size _ rfl, rfl, rfl⟩ (A1.2 g1 H1 _ Ext.refl R1 (by show items.length ≤ _; rw [r.length]; exact hz) (serves_fz R1 hq r)))
  | str z =>
    simp only [VR] at rv
    subst rv
    obtain ⟨t, rfl⟩ := r1
    simp only [vIter] at A1
    split at A1
    · rename_i hz
      have q := A1.2 g1 H1 _ Ext.refl R1 (by simpa using line_ok hz) serves_str
      cases ha : (sOf z).cps.all (· < 128)
      · exact wpAny_pyIter_wide ha (pi_one (tk := s1.toks) I1 _ (turn_str _ _ t "str_iterator" (.inr rfl)) ⟨_, Heap.get?_push_size _ rfl, rfl, rfl⟩ q)
      · exact wpAny_pyIter_ascii ha (pi_one (tk := s1.toks) I1 _ (turn_str _ _ t "str_ascii_iterator" (.inl rfl)) ⟨_, Heap.get?_push_size _ rfl, rfl, rfl⟩ q)
    · exact A1.elim
  | ref i =>
    simp only [vIter] at A1
    split at A1
    · rename_i items hi
      simp only [VR] at rv
      obtain ⟨a, rfl, hm⟩ := rv
      obtain ⟨xs, e1, r⟩ := ref_at R1 hi hm
      cases r1
      obtain ⟨its, rv, p, hz⟩ := I1.list (SqL.of e1)
      exact wpAny_pyIter_list p.isList (pi_one (tk := s1.toks) I1 _ (turn_list _ _) ⟨_, Heap.get?_push_size _ rfl, rfl, rfl⟩ (A1.2 g1 H1 _ Ext.refl R1 (by show items.length ≤ _; rw [r.length]; exact hz) (serves_ref hm)))
    · exact A1.elim
  | _ => exact A1.elim
/-! ### range -/
def vRange1 (v : Val) (h : Hv) : Res Src := match v with
  | .int j => if -(2 ^ 62) ≤ j ∧ j ≤ 16777216 then .ok (rangeL 0 j.toNat, none) h else .fail
  | _ => .fail
def vRange2 (v u : Val) (h : Hv) : Res Src := match v, u with
  | .int i, .int j => if -(2 ^ 62) ≤ i ∧ i < 2 ^ 62 ∧ -(2 ^ 62) ≤ j ∧ j < 2 ^ 62 ∧ j - i ≤ 16777216 then .ok (rangeL i (j - i).toNat, none) h else .fail
  | _, _ => .fail
def iRange1 (d : Den) : DenG Src := fun l h => (d l h).bind vRange1
def iRange2 (a b : Den) : DenG Src := fun l h => (a l h).bind fun v h1 => (b l h1).bind fun u h2 => vRange2 v u h2
theorem rangeL_len (lo : Int) (n : Nat) : (rangeL lo n).length = n := by simp [rangeL]
theorem gi_range1 {tg a : Expr} {d : Den} {p pos : Pos} (he : GE X W a d) (hm : X.mg "range" = none) (hg : Gl X "range" := by rfl) (hs : starEach [a] X.env = (false, eval a X.env) :: starEach [] X.env := by rfl) (hs1 : starEach [a] X.env = [(false, eval a X.env)] := by rfl) : GI X W tg (.Call (.Name "range" p) [a] [] pos) (iRange1 d) := by
  refine PI.imp (pi_range1 hg hm (pa_cons he pa_nil hs) hs1) fun pins s σ H R I ⟨g, l, h, S, Rh, A⟩ => ?_
  refine tG_I S Rh A fun v h1 g1 H1 x E S1 R1 r1 A1 => ?_
  cases v with
  | int j =>
    simp only [VR] at r1
    subst r1
    simp only [vRange1] at A1
    split at A1
    · rename_i c
      exact ⟨j, rfl, c.1, by omega, A1.2 g1 H1 _ Ext.refl R1 (by show (rangeL 0 j.toNat).length ≤ _; rw [rangeL_len, sizeLine_eq]; omega) serves_range⟩
    · exact A1.elim
  | _ => exact A1.elim
theorem gi_range2 {tg a b : Expr} {da db : Den} {p pos : Pos} (ha : GE X W a da) (hb : GE X W b db) (hm : X.mg "range" = none) (hg : Gl X "range" := by rfl) (hs : starEach [a, b] X.env = (false, eval a X.env) :: starEach [b] X.env := by rfl) (hs1 : starEach [a, b] X.env = [(false, eval a X.env), (false, eval b X.env)] := by rfl)
    (hs2 : starEach [b] X.env = (false, eval b X.env) :: starEach [] X.env := by rfl) (hs3 : starEach [b] X.env = [(false, eval b X.env)] := by rfl) : GI X W tg (.Call (.Name "range" p) [a, b] [] pos) (iRange2 da db) := by
  refine PI.imp (pi_range2 hg hm (pa_cons ha (pa_cons hb pa_nil hs2) hs) hs1 hs3) fun pins s σ H R I ⟨g, l, h, S, Rh, A⟩ => ?_
  refine tG_I S Rh A fun v h1 g1 H1 x E S1 R1 r1 A1 => ?_
  refine tG_I S1 R1 A1 fun u h2 g2 H2 y E2 S2 R2 r2 A2 => ?_
  cases v with
  | int i =>
    cases u with
    | int j =>
      simp only [VR] at r1 r2
      subst r1 r2
      simp only [vRange2] at A2
      split at A2
      · rename_i c
        exact ⟨i, j, rfl, ⟨c.1, c.2.1, c.2.2.1, c.2.2.2.1⟩, A2.2 g2 H2 _ Ext.refl R2 (by show (rangeL i (j - i).toNat).length ≤ _; rw [rangeL_len, sizeLine_eq]; omega) serves_range⟩
      · exact A2.elim
    | _ => exact A2.elim
  | _ => exact A2.elim

/-! ### comprehensions -/
/-- the target of a comprehension: it writes the block's own slots alone -/
def tTc (K : PySem.W.Frag) (vs : List Nat) (d : Tg) : TG := fun x σ H Q => ∃ g l h v, SR K g H l σ ∧ HR K g H h ∧ VR K g H v x ∧ match d v l h with
  | .ok l' h' => ∀ g' H' σ', Ext g H g' H' → HR K g' H' h' → SR K g' H' l' σ' → wipe σ' vs = wipe σ vs → Q σ' H'
  | _ => False
def tTcs (K : PySem.W.Frag) (vs : List Nat) (d : Tgs) : TGs := fun x σ H Q => ∃ g l h v, SR K g H l σ ∧ HR K g H h ∧ VRs K g H v x ∧ match d v l h with
  | .ok l' h' => ∀ g' H' σ', Ext g H g' H' → HR K g' H' h' → SR K g' H' l' σ' → wipe σ' vs = wipe σ vs → Q σ' H'
  | _ => False
def GC (X : Cx) (vs : List Nat) (tg : Expr) (d : Tg) : Prop := PG X tg (tTc X.K vs d)
def GCs (X : Cx) (vs : List Nat) (tg : List Expr) (d : Tgs) : Prop := PGs X tg (tTcs X.K vs d)
theorem wipe_set : ∀ {vs : List Nat} {σ : L2.St} {i : Nat} {x : Option V}, i ∈ vs → wipe (σ.set i x) vs = wipe σ vs
  | [], _, _, _, h => nomatch h
  | v :: vs, σ, i, x, h => by
    unfold wipe
    by_cases hi : i ∈ vs
    · rw [wipe_set hi]
    · have hv : i = v := by
        rcases List.mem_cons.mp h with h | h
        · exact h
        · exact absurd h hi
      subst hv
      have gen : ∀ (us : List Nat), wipe (σ.set i x) us = (wipe σ us).set i x ∨ wipe (σ.set i x) us = wipe σ us := by
        intro us
        induction us with
        | nil => exact .inl rfl
        | cons u us ih =>
          unfold wipe
          rcases ih with e | e
          · rw [e]
            by_cases hu : i = u
            · subst hu; right; rw [List.set_set]
            · left; rw [List.set_comm _ _ hu]
          · right; rw [e]
      rcases gen vs with e | e
      · rw [e, List.set_set]
      · rw [e]
theorem gc_name (i : Nat) {x : Str} {pos : Pos} {vs : List Nat} (hN : X.N.Nodup) (hv : i ∈ vs := by decide) (hi : X.N[i]? = some x := by rfl) (hx : L2.Loc X.env.scope x := by first | exact Or.inl rfl | exact Or.inr rfl) (hf : X.fn x = true ∨ X.env.scope.names.lookup x = some .local := by first | exact .inl rfl | exact .inr rfl) : GC X vs (.Name x pos) (gName i) := by
  refine PG.imp (pg_name hN hi hx hf) fun y σ H Q ⟨g, l, h, v, S, R, r, A⟩ => ?_
  exact A g H _ Ext.refl R (S.set i r) (wipe_set hv)
theorem gcs_nil {vs : List Nat} : GCs X vs [] gsNil := by
  refine PGs.imp pgs_nil fun y σ H Q ⟨g, l, h, v, S, R, r, A⟩ => ?_
  cases v with
  | nil =>
    simp only [VRs] at r
    exact ⟨r, A g H σ Ext.refl R S rfl⟩
  | cons v vs => exact A.elim
theorem gcs_cons {vs : List Nat} {e : Expr} {es : List Expr} {t : Tg} {u : Tgs} (h1 : GC X vs e t) (h2 : GCs X vs es u)
    (hs : (assignEach (e :: es) X.env).map (·.2) = assign e X.env :: (assignEach es X.env).map (·.2) := by rfl) : GCs X vs (e :: es) (gsCons t u) := by
  refine PGs.imp (pgs_cons h1 h2 hs) fun y σ H Q ⟨g, l, h, v, S, R, r, A⟩ => ?_
  cases v with
  | nil => exact A.elim
  | cons v ws =>
    simp only [VRs] at r
    obtain ⟨x, r', rfl, q1, q2⟩ := r
    refine ⟨x, r', rfl, g, l, h, v, S, R, q1, ?_⟩
    simp only [gsCons] at A
    cases e : t v l h with
    | ok l1 h1 =>
      rw [e] at A
      simp only [TRes.bind_ok] at A
      intro g' H' σ' E R' S' w
      refine ⟨g', l1, h1, ws, S', R', q2.ext R E, ?_⟩
      cases e2 : u ws l1 h1 with
      | ok l2 h2 =>
        rw [e2] at A
        exact fun g2 H2 σ2 E2 R2 S2 w2 => A g2 H2 σ2 (E.trans E2) R2 S2 (w2.trans w)
      | exc x l1 h1 => rw [e2] at A; exact A
      | fail => rw [e2] at A; exact A
    | exc x l1 h1 => rw [e] at A; exact A
    | fail => rw [e] at A; exact A
theorem gc_tup {vs : List Nat} {es : List Expr} {k : Nat} {t : Tgs} {n : Nat} {pos : Pos} (hc : X.calm = true) (h : GCs X vs es t)
    (hn : (assignEach es X.env).length = n := by rfl) (hst : (assignEach es X.env).findIdx? (·.1) = none := by rfl) : GC X vs (.Tuple es k pos) (gTup n t) := by
  refine PG.imp (pg_tup hc h hn hst) fun y σ H Q ⟨g, l, h, v, S, R, r, A⟩ => ?_
  cases v with
  | tup ws =>
    simp only [VR] at r
    obtain ⟨a, xs, rfl, q1, q2⟩ := r
    unfold gTup at A
    simp only at A
    split at A
    · rename_i l' h' e
      split at e
      · rename_i hl2
        exact ⟨a, xs, rfl, q1, by rw [← q2.length]; exact hl2, g, l, h, ws, S, R, q2, by rw [e]; exact A⟩
      · cases e
    · exact A.elim
  | _ => exact A.elim
end
end GH
set_option Elab.async false
set_option linter.all false
set_option maxRecDepth 100000
set_option maxHeartbeats 1000000
set_option autoImplicit false
/-! List comprehensions, one clause. -/
namespace GH
open PySem PySem.Spec PyProof.Rows L2
variable [TheWorld]

section
variable {K : PySem.W.Frag} {g : Gh} {H : Hp} {D : Addr} {ds zs : HO}
mutual
theorem VR.reset (hD : D ∈ g.r) (e0 : H D = some ds) (mu : MutX D ds) : ∀ {v : Val} {x : V}, VR K g H v x → VR K g (upd H D zs) v x
  | .non, x, q => by simpa only [VR] using q
  | .bl b, x, q => by simpa only [VR] using q
  | .int i, x, q => by simpa only [VR] using q
  | .str s, x, q => by simpa only [VR] using q
  | .tup l, x, q => by
    simp only [VR] at q ⊢
    obtain ⟨a, xs, e, s, r⟩ := q
    refine ⟨a, xs, e, ?_, VRs.reset hD e0 mu r⟩
    rcases s with (s | ⟨o, s⟩) | s
    · exact .inl (.inl (by rw [upd_ne (show a ≠ D by rintro rfl; rw [e0] at s; cases s; exact mu)]; exact s))
    · exact .inl (.inr ⟨o, by rw [upd_ne (show a ≠ D by rintro rfl; rw [e0] at s; cases s; exact mu)]; exact s⟩)
    · exact .inr s
  | .lst l, x, q => by
    simp only [VR] at q ⊢
    obtain ⟨a, xs, e, n, s, r⟩ := q
    exact ⟨a, xs, e, n, by rw [upd_ne (show a ≠ D by rintro rfl; exact n (.inr hD))]; exact s, VRs.reset hD e0 mu r⟩
  | .fz l, x, q => by
    simp only [VR] at q ⊢
    obtain ⟨a, xs, e, s, r⟩ := q
    exact ⟨a, xs, e, s.imp fun o s => by rw [upd_ne (show a ≠ D by rintro rfl; rw [e0] at s; cases s; exact mu)]; exact s, VRs.reset hD e0 mu r⟩
  | .ref i, x, q => by simpa only [VR] using q
theorem VRs.reset (hD : D ∈ g.r) (e0 : H D = some ds) (mu : MutX D ds) : ∀ {l : List Val} {xs : List V}, VRs K g H l xs → VRs K g (upd H D zs) l xs
  | [], xs, q => by simpa only [VRs] using q
  | v :: l, xs, q => by
    simp only [VRs] at q ⊢
    obtain ⟨x, r, e, q1, q2⟩ := q
    exact ⟨x, r, e, VR.reset hD e0 mu q1, VRs.reset hD e0 mu q2⟩
end
theorem HR.reset {h : Hv} (R : HR K g H h) (hD : D ∈ g.r) (e0 : H D = some ds) (mu : MutX D ds) (mz : MutX D zs) : HR K g (upd H D zs) h := by
  refine ⟨R.len, R.nd, R.dis, fun a ha => ?_, fun i o a e1 e2 => ?_⟩
  · by_cases q : a = D
    · subst q; exact ⟨_, upd_same, mz⟩
    · obtain ⟨ob, e, mo⟩ := R.al a ha
      exact ⟨ob, by rw [upd_ne q]; exact e, mo⟩
  · have hne : a ≠ D := fun z => R.dis a (List.mem_of_getElem? e2) (by rw [z]; exact hD)
    have q := R.obj i o a e1 e2
    cases o with
    | lst l => obtain ⟨xs, e, r⟩ := q; exact ⟨xs, by rw [upd_ne hne]; exact e, r.reset hD e0 mu⟩
    | dic l => obtain ⟨xs, e, r⟩ := q; exact ⟨xs, by rw [upd_ne hne]; exact e, r.1, r.2.reset hD e0 mu⟩
    | ins c f => obtain ⟨dx, gs, e, r⟩ := q; exact ⟨dx, gs, by rw [upd_ne hne]; exact e, r.1, r.2.reset hD e0 mu⟩
    | dn l => obtain ⟨xs, ys, e, p, r1, r2⟩ := q; exact ⟨xs, ys, by rw [upd_ne hne]; exact e, p, r1.reset hD e0 mu, r2.reset hD e0 mu⟩
    | tbl t => exact ⟨q.1, q.2.stay (fun ps e => by rw [upd_ne hne]; exact e) (fun c o e nt hn => ⟨by rw [upd_ne (fun z => hn (.inr (by rw [z]; exact hD)))]; exact e, hn⟩)⟩
theorem Ext.reset {g' : Gh} {H' : Hp} {xs : HO} (E : Ext g H g' H') (hD : D ∉ g.m) (e0 : H D = some ds) (nd : ∀ ps, ds ≠ .tbl ps := by intro ps z; cases z) (nx : ∀ ps, xs ≠ .tbl ps := by intro ps z; cases z) : Ext g (upd H D xs) g' (upd H' D xs) := by
  obtain ⟨t, em, n⟩ := E.m
  refine ⟨⟨t, em, fun b hb => ?_⟩, E.r, fun b o e nt hb => ?_, fun b o e nt => ?_⟩
  · have hne : b ≠ D := by
      rintro rfl
      obtain ⟨ps, z⟩ := n _ hb _ e0
      exact nd ps z
    intro o q
    rw [upd_ne hne] at q
    exact n b hb o q
  · by_cases q : b = D
    · subst q; rw [upd_same] at e ⊢; exact e
    · rw [upd_ne q] at e ⊢; exact E.keepN b o e nt hb
  · by_cases q : b = D
    · subst q; exact ⟨_, upd_same, nx⟩
    · rw [upd_ne q] at e ⊢; exact E.there b o e nt
mutual
theorem VR.own {g' : Gh} {t : List Addr} (hm : g'.m = g.m ++ t) (ho : ∀ a, ¬ g.own a → ¬ g'.own a) : ∀ {v : Val} {x : V}, VR K g H v x → VR K g' H v x
  | .non, x, q => by simpa only [VR] using q
  | .bl b, x, q => by simpa only [VR] using q
  | .int i, x, q => by simpa only [VR] using q
  | .str s, x, q => by simpa only [VR] using q
  | .tup l, x, q => by
    simp only [VR] at q ⊢
    obtain ⟨a, xs, e, s, r⟩ := q
    exact ⟨a, xs, e, s, VRs.own hm ho r⟩
  | .lst l, x, q => by
    simp only [VR] at q ⊢
    obtain ⟨a, xs, e, n, s, r⟩ := q
    exact ⟨a, xs, e, ho a n, s, VRs.own hm ho r⟩
  | .fz l, x, q => by
    simp only [VR] at q ⊢
    obtain ⟨a, xs, e, s, r⟩ := q
    exact ⟨a, xs, e, s, VRs.own hm ho r⟩
  | .ref i, x, q => by
    simp only [VR] at q ⊢
    obtain ⟨a, e, h⟩ := q
    exact ⟨a, e, by rw [hm, List.getElem?_append_left (List.getElem?_eq_some_iff.mp h).1]; exact h⟩
theorem VRs.own {g' : Gh} {t : List Addr} (hm : g'.m = g.m ++ t) (ho : ∀ a, ¬ g.own a → ¬ g'.own a) : ∀ {l : List Val} {xs : List V}, VRs K g H l xs → VRs K g' H l xs
  | [], xs, q => by simpa only [VRs] using q
  | v :: l, xs, q => by
    simp only [VRs] at q ⊢
    obtain ⟨x, r, e, q1, q2⟩ := q
    exact ⟨x, r, e, VR.own hm ho q1, VRs.own hm ho q2⟩
end
theorem HR.less {r' : List Addr} {h : Hv} (R : HR K g H h) (hr : ∀ b ∈ r', b ∈ g.r) : HR K ⟨g.m, r'⟩ H h := by
  have hm : (Gh.mk g.m r').m = g.m ++ [] := by simp
  have ho : ∀ a, ¬ g.own a → ¬ (Gh.mk g.m r').own a := fun a n z => n (z.elim .inl fun z => .inr (hr a z))
  refine ⟨R.len, R.nd, fun a ha z => R.dis a ha (hr a z), fun a ha => R.al a (hr a ha), fun i o a e1 e2 => ?_⟩
  have q := R.obj i o a e1 e2
  cases o with
  | lst l => obtain ⟨xs, e, r⟩ := q; exact ⟨xs, e, r.own hm ho⟩
  | dic l => obtain ⟨xs, e, r⟩ := q; exact ⟨xs, e, r.1, r.2.own hm ho⟩
  | ins c f => obtain ⟨dx, gs, e, r⟩ := q; exact ⟨dx, gs, e, r.1, r.2.own hm ho⟩
  | dn l => obtain ⟨xs, ys, e, p, r1, r2⟩ := q; exact ⟨xs, ys, e, p, r1.own hm ho, r2.own hm ho⟩
  | tbl t => exact ⟨q.1, q.2.stay (fun ps e => e) (fun c o e nt hn => ⟨e, ho _ hn⟩)⟩
theorem SR.extS {g' : Gh} {H' : Hp} {h : Hv} {l : Loc} {σ : L2.St} (S : SR K g H l σ) (R : HR K g H h) (E : ExtS g H g' H') : SR K g' H' l σ :=
  ⟨S.len, fun i v e => by obtain ⟨x, e1, e2⟩ := S.at_ i v e; exact ⟨x, e1, e2.extS R E⟩⟩
/-- the slots of the block's own names forgotten -/
def wipeL (l : Loc) : List Nat → Loc
  | [] => l
  | v :: vs => (wipeL l vs).set v none
theorem wipeL_some {l : Loc} {i : Nat} {x : Val} : ∀ {vs : List Nat}, (wipeL l vs)[i]? = some (some x) → l[i]? = some (some x) ∧ i ∉ vs
  | [], h => ⟨h, by simp⟩
  | v :: vs, h => by
    unfold wipeL at h
    by_cases hi : v = i
    · subst hi
      by_cases hv : v < (wipeL l vs).length
      · rw [List.getElem?_set_self hv] at h; cases h
      · rw [List.getElem?_eq_none (by simpa using hv)] at h; cases h
    · rw [List.getElem?_set_ne hi] at h
      obtain ⟨h1, h2⟩ := wipeL_some h
      exact ⟨h1, by simp only [List.mem_cons, not_or]; exact ⟨fun e => hi e.symm, h2⟩⟩
theorem wipeL_len (l : Loc) : ∀ vs, (wipeL l vs).length = l.length
  | [] => rfl
  | v :: vs => by unfold wipeL; rw [List.length_set, wipeL_len l vs]
theorem SR.wipe {l : Loc} {σ : L2.St} (S : SR K g H l σ) (vs : List Nat) : SR K g H (wipeL l vs) (L2.wipe σ vs) := by
  refine ⟨by rw [wipeL_len, L2.wipe_length, S.len], fun i v e => ?_⟩
  obtain ⟨e1, n⟩ := wipeL_some e
  obtain ⟨x, e2, r⟩ := S.at_ i v e1
  exact ⟨x, by rw [L2.wipe_out n]; exact e2, r⟩
theorem wipe_wipe {σ : L2.St} {vs : List Nat} : ∀ {us : List Nat}, (∀ u ∈ us, u ∈ vs) → L2.wipe (L2.wipe σ us) vs = L2.wipe σ vs
  | [], _ => rfl
  | u :: us, h => by
    show L2.wipe ((L2.wipe σ us).set u none) vs = _
    rw [wipe_set (h u (List.mem_cons_self ..)), wipe_wipe fun w hw => h w (List.mem_cons_of_mem _ hw)]
end

/-! ### the block -/
open Classical in
noncomputable def lcL (t : Tg) (c : DenG Bool) (e : Den) (s : Src) : List Val → List Val → Loc → Hv → Res (List Val)
  | [], acc, _, h => if srcOk s h then .ok acc h else .fail
  | x :: r, acc, l, h => if srcOk s h then (match t x l h with
    | .ok l1 h1 => (match c l1 h1 with
      | .ok b h2 => if b = true then (match e l1 h2 with
        | .ok v h3 => lcL t c e s r (acc ++ [v]) l h3
        | _ => .fail) else lcL t c e s r acc l h2
      | _ => .fail)
    | _ => .fail) else .fail
/-- what becomes of the items: a list that nobody writes, or one of ours -/
def frozen (ys : List Val) (h : Hv) : Res Val := .ok (.lst ys) h
def ours (ys : List Val) (h : Hv) : Res Val := .ok (.ref h.length) (h ++ [.lst ys])
noncomputable def dLc (fin : List Val → Hv → Res Val) (vs : List Nat) (di : DenG Src) (t : Tg) (c : DenG Bool) (e : Den) : Den := fun l h => (di l h).bind fun s h1 => (lcL t c e s s.1 [] (wipeL l vs) h1).bind fin
def W0 : WX := fun _ _ _ _ => False
/-- what a list at a new place may become -/
def FinOk (K : PySem.W.Frag) (fin : List Val → Hv → Res Val) : Prop := ∀ {W : WX} {σ : L2.St} {g1 g2 : Gh} {H1 H : Hp} {h : Hv} {Q : VK} {D : Addr} {ys : List Val} {xs : List V},
  H1 D = none → (∀ b ∈ g1.r, ∃ o, H1 b = some o) → D ∈ g2.r → g2.r = D :: g1.r → H D = some (.lst xs) → Ext g1 H1 ⟨g2.m, g1.r⟩ H → HR K g2 H h → VRs K g2 H ys xs → After K W (vr K) σ g1 H1 Q (fin ys h) → Q (.ref D) H
theorem fin_frozen {K : PySem.W.Frag} : FinOk K frozen := by
  intro W σ g1 g2 H1 H h Q D ys xs nD al hD er eD E R r A
  have hr : ∀ b ∈ g1.r, b ∈ g2.r := fun b hb => by rw [er]; exact List.mem_cons_of_mem _ hb
  refine A ⟨g2.m, g1.r⟩ H (.ref D) E (R.less hr) ?_
  simp only [VR]
  refine ⟨D, xs, rfl, ?_, eD, r.own (g' := ⟨g2.m, g1.r⟩) (t := []) (by simp) (show ∀ a, ¬ g2.own a → ¬ (Gh.mk g2.m g1.r).own a from fun a n z => n (z.elim .inl fun z => .inr (hr a z)))⟩
  rintro (z | z)
  · exact R.dis D z hD
  · obtain ⟨o, e⟩ := al D z
    rw [nD] at e; cases e
theorem fin_ours {K : PySem.W.Frag} : FinOk K ours := by
  intro W σ g1 g2 H1 H h Q D ys xs nD al hD er eD E R r A
  have hr : ∀ b ∈ g1.r, b ∈ g2.r := fun b hb => by rw [er]; exact List.mem_cons_of_mem _ hb
  have nm : D ∉ g2.m := fun z => R.dis D z hD
  have nr : D ∉ g1.r := fun z => by obtain ⟨o, e⟩ := al D z; rw [nD] at e; cases e
  obtain ⟨t, em, n⟩ := E.m
  have em : g2.m = g1.m ++ t := em
  have E' : Ext g1 H1 ⟨g2.m ++ [D], g1.r⟩ H := ⟨⟨t ++ [D], by show g2.m ++ [D] = _; rw [em, List.append_assoc], fun b hb => by
    rcases List.mem_append.mp hb with hb | hb
    · exact n b hb
    · rw [List.mem_singleton.mp hb]; exact fre_none nD⟩, rfl, E.keepN, E.there⟩
  have hm : (Gh.mk (g2.m ++ [D]) g1.r).m = g2.m ++ [D] := rfl
  have ho : ∀ a, ¬ g2.own a → ¬ (Gh.mk (g2.m ++ [D]) g1.r).own a := fun a ha z => by
    rcases z with z | z
    · rcases List.mem_append.mp z with z | z
      · exact ha (.inl z)
      · exact ha (.inr (by rw [List.mem_singleton.mp z]; exact hD))
    · exact ha (.inr (hr a z))
  refine A ⟨g2.m ++ [D], g1.r⟩ H (.ref D) E' ⟨by simp [R.len], ?_, fun a ha => ?_, fun a ha => R.al a (hr a ha), fun i o a e1 e2 => ?_⟩ ?_
  · show (g2.m ++ [D]).Nodup
    refine List.nodup_append.mpr ⟨R.nd, by simp, fun a ha b hb => ?_⟩
    rw [List.mem_singleton.mp hb]
    rintro rfl
    exact nm ha
  · have ha : a ∈ g2.m ++ [D] := ha
    rcases List.mem_append.mp ha with ha | ha
    · exact fun z => R.dis a ha (hr a z)
    · rw [List.mem_singleton.mp ha]; exact nr
  · have e2 : (g2.m ++ [D])[i]? = some a := e2
    by_cases hi : i < h.length
    · rw [List.getElem?_append_left hi] at e1
      rw [List.getElem?_append_left (by rw [R.len]; exact hi)] at e2
      have q := R.obj i o a e1 e2
      cases o with
      | lst l => obtain ⟨xs, e, r⟩ := q; exact ⟨xs, e, r.own hm ho⟩
      | dic l => obtain ⟨xs, e, r⟩ := q; exact ⟨xs, e, r.1, r.2.own hm ho⟩
      | ins c f => obtain ⟨dx, gs, e, r⟩ := q; exact ⟨dx, gs, e, r.1, r.2.own hm ho⟩
      | dn l => obtain ⟨xs, ys, e, p, r1, r2⟩ := q; exact ⟨xs, ys, e, p, r1.own hm ho, r2.own hm ho⟩
      | tbl t => exact ⟨q.1, q.2.stay (fun ps e => e) (fun c o e nt hn => ⟨e, ho _ hn⟩)⟩
    · have hi' : i = h.length := by
        have := (List.getElem?_eq_some_iff.mp e1).1
        simp at this
        omega
      subst hi'
      rw [List.getElem?_append_right (Nat.le_refl _)] at e1
      rw [List.getElem?_append_right (by rw [R.len]; exact Nat.le_refl _)] at e2
      simp at e1
      rw [R.len] at e2
      simp at e2
      subst e1 e2
      exact ⟨xs, eD, r.own hm ho⟩
  · simp only [VR]
    refine ⟨D, rfl, ?_⟩
    show (g2.m ++ [D])[h.length]? = some D
    rw [← R.len]
    simp
section
variable {K : PySem.W.Frag}
theorem lc_red {W : WX} {fin : List Val → Hv → Res Val} (hfin : FinOk K fin) {vs : List Nat} {di : DenG Src} {t : Tg} {c : DenG Bool} {e : Den} {σ : L2.St} {H : Hp} {Q : VK} (z : tG K W (vr K) (dLc fin vs di t c e) σ H Q) :
    tLc (tI K W di) (tTc K vs t) (tG K W0 br c) (tG K W0 (vr K) e) vs σ H Q := by
  obtain ⟨g, l, h, S, R, A⟩ := z
  refine ⟨g, l, h, S, R, ?_⟩
  unfold dLc at A
  unfold AfterI
  cases ed : di l h with
  | exc x h1 => rw [ed] at A; exact A
  | fail => rw [ed] at A; exact A
  | ok s h1 =>
    rw [ed] at A
    simp only [Res.bind_ok] at A
    have ok1 : srcOk s h1 := by
      cases hs1 : s.1 with
      | nil =>
        rw [hs1] at A
        simp only [lcL] at A
        split at A
        · assumption
        · exact A.elim
      | cons x r =>
        rw [hs1] at A
        simp only [lcL] at A
        split at A
        · assumption
        · exact A.elim
    refine ⟨ok1, fun g1 H1 J E1 R1 hz sv D nD => ?_⟩
    have A := After.ext E1 A
    have al : ∀ b ∈ g1.r, ∃ o, H1 b = some o := fun b hb => R1.own_there (.inr hb)
    have S1 := S.ext R E1
    -- the new list is put aside
    have ES : ExtS g1 H1 ⟨g1.m, D :: g1.r⟩ (upd H1 D (.lst [])) := ⟨⟨[], by simp, by simp⟩, ⟨[D], rfl, fun b hb => by rw [List.mem_singleton.mp hb]; exact fre_none nD⟩, fun b o e _ hb => by rw [upd_ne (ne_of_none e nD)]; exact e⟩
    have RD : HR K ⟨g1.m, D :: g1.r⟩ (upd H1 D (.lst [])) h1 := by
      refine ⟨R1.len, R1.nd, fun a ha z => ?_, fun a ha => ?_, fun i o a e1 e2 => ?_⟩
      · rcases List.mem_cons.mp z with z | z
        · subst z; exact R1.fresh nD (.inl ha)
        · exact R1.dis a ha z
      · rcases List.mem_cons.mp ha with z | z
        · subst z; exact ⟨_, upd_same, trivial⟩
        · obtain ⟨ob, e, mo⟩ := R1.al a z
          exact ⟨ob, by rw [upd_ne (ne_of_none e nD)]; exact e, mo⟩
      · have q := R1.obj i o a e1 e2
        cases o with
        | lst l => obtain ⟨xs, e, r⟩ := q; exact ⟨xs, by rw [upd_ne (ne_of_none e nD)]; exact e, r.extS R1 ES⟩
        | dic l => obtain ⟨xs, e, r⟩ := q; exact ⟨xs, by rw [upd_ne (ne_of_none e nD)]; exact e, r.1, r.2.extS R1 ES⟩
        | ins c f => obtain ⟨dx, gs, e, r⟩ := q; exact ⟨dx, gs, by rw [upd_ne (ne_of_none e nD)]; exact e, r.1, r.2.extS R1 ES⟩
        | dn l => obtain ⟨xs, ys, e, p, r1, r2⟩ := q; exact ⟨xs, ys, by rw [upd_ne (ne_of_none e nD)]; exact e, p, r1.extS R1 ES, r2.extS R1 ES⟩
        | tbl t => exact ⟨q.1, q.2.stay (fun ps e => by rw [upd_ne (ne_of_none e nD)]; exact e) (fun c o e nt hn => ⟨by rw [upd_ne (ne_of_none e nD)]; exact e, ES.nown hn e nt⟩)⟩
    let Wd : Nat → Hp → Prop := fun i H => ∃ g2 h2 ys xs, H D = some (.lst xs) ∧ Ext ⟨g1.m, D :: g1.r⟩ (upd H1 D (.lst [])) g2 (upd H D (.lst [])) ∧ HR K g2 H h2 ∧ VRs K g2 H ys xs ∧ xs.length ≤ i ∧ i ≤ s.1.length ∧
      After K W (vr K) σ g1 H1 Q ((lcL t c e s (s.1.drop i) ys (wipeL l vs) h2).bind fin)
    refine ⟨fun i m H => m = s.1.length - i ∧ Wd i H, ⟨s.1.length, by simp, ⟨g1.m, D :: g1.r⟩, h1, [], [], upd_same, by rw [upd_upd]; exact Ext.refl, RD, VRs.nil, by simp, Nat.zero_le _, by simpa using A⟩, ?_⟩
    rintro i m H ⟨rfl, g2, h2, ys, xs, eD, E, R2, r, hl, hil, A⟩
    have hDr : D ∈ g2.r := by rw [E.r]; exact List.mem_cons_self ..
    have hDm : D ∉ g2.m := fun z => R2.dis D z hDr
    obtain ⟨tm, em, nm⟩ := E.m
    have em : g2.m = g1.m ++ tm := em
    have nm : ∀ b ∈ tm, Fre H1 b := fun b hb => by
      have q := nm b hb
      have hne : b ≠ D := by
        rintro rfl
        obtain ⟨ps, z⟩ := q _ upd_same
        cases z
      intro o z
      exact q o (by rw [upd_ne hne]; exact z)
    have keep : ∀ b o, H1 b = some o → (∀ ps, o ≠ .tbl ps) → b ∉ g1.m → H b = some o := fun b o e nt hb => by
      have hne := ne_of_none e nD
      have q := E.keepN b o (by rw [upd_ne hne]; exact e) nt hb
      rw [upd_ne hne] at q
      exact q
    have E2S : ExtS g1 H1 g2 H := ⟨⟨tm, em, nm⟩, ⟨[D], E.r, fun b hb => by rw [List.mem_singleton.mp hb]; exact fre_none nD⟩, fun b o e nt hb => keep b o e nt fun z => hb (.inl z)⟩
    have E2 : Ext g1 H1 ⟨g2.m, g1.r⟩ H := ⟨⟨tm, em, nm⟩, rfl, keep, fun b o e nt => by
      have hne := ne_of_none e nD
      obtain ⟨o', q, nt'⟩ := E.there b o (by rw [upd_ne hne]; exact e) nt
      rw [upd_ne hne] at q
      exact ⟨o', q, nt'⟩⟩
    have S2 : SR K g2 H (wipeL l vs) (wipe σ vs) := (S1.extS R1 E2S).wipe vs
    cases hd : s.1.drop i with
    | nil =>
      have hle : s.1.length ≤ i := List.drop_eq_nil_iff.mp hd
      rw [hd] at A
      simp only [lcL] at A
      split at A
      · rename_i ok
        exact .inl ⟨(sv g2 H h2 E2S R2 ok i).2 (Nat.le_antisymm hil hle), hfin nD al hDr E.r eD E2 R2 r A⟩
      · exact A.elim
    | cons v rest =>
      have hlt : i < s.1.length := by
        by_cases q : i < s.1.length
        · exact q
        · rw [List.drop_eq_nil_iff.mpr (by omega)] at hd; cases hd
      have hv : s.1[i]? = some v := by
        have q := congrArg List.head? hd
        rw [List.head?_drop] at q
        simpa using q
      have hr : s.1.drop (i + 1) = rest := by
        have q := congrArg List.tail hd
        rw [List.tail_drop] at q
        simpa using q
      rw [hd] at A
      simp only [lcL] at A
      split at A
      · rename_i ok
        obtain ⟨go, yl⟩ := (sv g2 H h2 E2S R2 ok i).1 v hv
        refine .inr ⟨go, Wd (i + 1), fun H' q => ⟨s.1.length - (i + 1), by omega, rfl, q⟩, fun x H' y => ?_⟩
        obtain ⟨E3, R3, rx⟩ := yl x H' y
        refine ⟨g2, wipeL l vs, h2, v, S2.ext R2 E3, R3, rx, ?_⟩
        cases et : t v (wipeL l vs) h2 with
        | exc x l1 h1 => rw [et] at A; exact A
        | fail => rw [et] at A; exact A
        | ok l3 h3 =>
          rw [et] at A
          simp only at A
          intro g4 H4 σ4 E4 R4 S4 w4
          refine ⟨w4.trans (wipe_wipe fun _ hu => hu), g4, l3, h3, S4, R4, ?_⟩
          cases ec : c l3 h3 with
          | exc x h1 => rw [ec] at A; exact A.elim
          | fail => rw [ec] at A; exact A.elim
          | ok b h5 =>
            rw [ec] at A
            simp only at A
            intro g5 H5 b' E5 R5 eb
            obtain rfl : b = b' := eb
            have E25 := (E3.trans E4).trans E5
            have keepD : ∀ {g6 : Gh} {H6 : Hp}, Ext g2 H g6 H6 → H6 D = some (.lst xs) := fun E6 => E6.keep D _ eD hDm
            cases b with
            | false =>
              rw [if_neg Bool.false_ne_true] at A ⊢
              exact ⟨g5, h5, ys, xs, keepD E25, E.trans (E25.reset hDm eD), R5, r.ext R2 E25, by omega, hlt, by rw [hr]; exact A⟩
            | true =>
              rw [if_pos rfl] at A ⊢
              refine ⟨g5, l3, h5, S4.ext R4 E5, R5, ?_⟩
              cases ee : e l3 h5 with
              | exc x h1 => rw [ee] at A; exact A.elim
              | fail => rw [ee] at A; exact A.elim
              | ok y h6 =>
                rw [ee] at A
                simp only at A
                intro g6 H6 xv E6 R6 rv
                have E26 := E25.trans E6
                have hD6 : D ∈ g6.r := by rw [E26.r]; exact hDr
                have k6 := keepD E26
                refine ⟨xs, k6, by omega, g6, h6, ys ++ [y], xs ++ [xv], upd_same, ?_, R6.reset hD6 k6 trivial trivial, ((r.ext R2 E26).append (.one rv)).reset hD6 k6 trivial, by simp; omega, hlt, by rw [hr]; exact A⟩
                rw [upd_upd]
                exact E.trans (E26.reset hDm eD)
      · exact A.elim
end
section
variable {X : Cx} {W : WX}
def GTs (X : Cx) (W : WX) (es : List Expr) (d : DenG Bool) : Prop := PTs X es (tG X.K W br d)
def dYes : DenG Bool := fun _ h => .ok true h
theorem gts_nil : GTs X W [] dYes := ⟨fun pins s σ H Q I ⟨g, l, h, S, R, A⟩ => (pts_nil (X := X)).run pins s σ H Q I (A g H true Ext.refl R rfl)⟩
theorem gts_one {c : Expr} {d : DenG Bool} (hc : GT X W c d) : GTs X W [c] d := pts_one hc
theorem ge_lc {fin : List Val → Hv → Res Val} (hfin : FinOk X.K fin) {elt tg iter : Expr} {ifs : List Expr} {scope : Scope} (own : List (Str × Nat)) {pos : Pos} {di : DenG Src} {t : Tg} {c : DenG Bool} {e : Den} (hc : X.calm = true) (hN : X.N.Nodup) (hi : GI X W tg iter di)
    (hg : ∀ (s : Shared) (H : Hp) (C : Addr) (cl : List (Str × Addr)) (fp : List Addr), GC (X.blk s H scope (compEnvC scope cl C X.env) fp) (own.map (·.2)) tg t) (ht : ∀ (s : Shared) (H : Hp) (C : Addr) (cl : List (Str × Addr)) (fp : List Addr), GTs (X.blk s H scope (compEnvC scope cl C X.env) fp) W0 ifs c)
    (he : ∀ (s : Shared) (H : Hp) (C : Addr) (cl : List (Str × Addr)) (fp : List Addr), GE (X.blk s H scope (compEnvC scope cl C X.env) fp) W0 elt e) (ok : blkC X.N X.env.scope scope own = true := by first | rfl | decide +kernel) (hs : ∀ x, foldedSetIterable iter X.env x = pure x := by intro _; rfl) :
    GE X W (.ListComp elt [⟨tg, iter, ifs, 0⟩] scope pos) (dLc fin (own.map (·.2)) di t c e) :=
  PE.imp (pe_lc (g := tTc X.K (own.map fun p : Str × Nat => p.2) t) (tt := tG X.K W0 br c) (te := tG X.K W0 (vr X.K) e) hc hN hi (blkOk_by ok) hg ht he hs) fun σ H Q z => lc_red hfin z
theorem gs_setLc {fin : List Val → Hv → Res Val} (hfin : FinOk X.K fin) (i : Nat) {y : Str} {py : Pos} {elt tg iter : Expr} {ifs : List Expr} {scope : Scope} (own : List (Str × Nat)) {pos spos : Pos} {di : DenG Src} {t : Tg} {c : DenG Bool} {e : Den} (hc : X.calm = true) (hN : X.N.Nodup) (hi : GI X W tg iter di)
    (hg : ∀ (s : Shared) (H : Hp) (C : Addr) (cl : List (Str × Addr)) (fp : List Addr), GC (X.blk s H scope (compEnvC scope cl C X.env) fp) (own.map (·.2)) tg t) (ht : ∀ (s : Shared) (H : Hp) (C : Addr) (cl : List (Str × Addr)) (fp : List Addr), GTs (X.blk s H scope (compEnvC scope cl C X.env) fp) W0 ifs c)
    (he : ∀ (s : Shared) (H : Hp) (C : Addr) (cl : List (Str × Addr)) (fp : List Addr), GE (X.blk s H scope (compEnvC scope cl C X.env) fp) W0 elt e)
    (hy : X.N[i]? = some y := by rfl) (hyl : X.env.scope.names.lookup y = some .local := by rfl) (hsw : swapsWith (.ListComp elt [⟨tg, iter, ifs, 0⟩] scope pos) (some (.Name y py)) spos.line X.env = pure true := by exact sw_true rfl rfl rfl (by decide +kernel))
    (ok : blkC X.N X.env.scope scope own = true := by first | rfl | decide +kernel) (hs : ∀ x, foldedSetIterable iter X.env x = pure x := by intro _; rfl) :
    GS X W (.Assign [.Name y py] (.ListComp elt [⟨tg, iter, ifs, 0⟩] scope pos) spos) (sAsg (dLc fin (own.map (·.2)) di t c e) (gName i)) := by
  refine PS.imp (ps_setLc (g := tTc X.K (own.map fun p : Str × Nat => p.2) t) (tt := tG X.K W0 br c) (te := tG X.K W0 (vr X.K) e) hc hN hy hyl hsw hi (blkOk_by ok) hg ht he hs) fun D σ H ⟨g, l, h, S, R, A⟩ => ?_
  refine lc_red hfin ?_
  refine tG_to S R A fun v h1 g1 H1 x E S1 R1 r1 A1 => ?_
  exact A1 g1 H1 _ Ext.refl R1 (S1.set i r1)
end
end GH
set_option Elab.async false
set_option linter.all false
set_option maxRecDepth 100000
set_option maxHeartbeats 1000000
set_option autoImplicit false
/-! Defs, calls, raise, try. -/
namespace GH
open PySem PySem.Spec PyProof.Rows L2
variable [TheWorld]

/-! ### what a def yields -/
def runDef (n : Nat) (body : Stm) (args : List Val) (h : Hv) : Res Val := match body (args.map some ++ List.replicate (n - args.length) none) h with
  | .nx _ h' => .ok .non h'
  | .rt v h' => .ok v h'
  | .exc e _ h' => .exc e h'
  | _ => .fail
/-- behind a call -/
def AfterC (K : PySem.W.Frag) (g : Gh) (H : Hp) (Q : VK) (E : XK) : Res Val → Prop
  | .ok v h' => ∀ g' H' x, Ext g H g' H' → HR K g' H' h' → VR K g' H' v x → Q x H'
  | .exc e h' => ∀ g' H' cls d, Ext g H g' H' → HR K g' H' h' → ER K g' H' e cls d → E cls d H'
  | .fail => False
abbrev DF := List Val → Hv → Res Val
def spG (K : PySem.W.Frag) (D : DF) (n : Nat) : Sp := fun vs H Q E => vs.length = n ∧ ∃ g h args, HR K g H h ∧ VRs K g H args vs ∧ AfterC K g H Q E (D args h)

/-! ### lists that are handed back are frozen, what is no longer reached is forgotten -/
mutual
def frz (f : Nat → Option Val) : Val → Option Val
  | .non => some .non
  | .bl b => some (.bl b)
  | .int i => some (.int i)
  | .str s => some (.str s)
  | .tup l => (frzs f l).map .tup
  | .lst l => (frzs f l).map .lst
  | .fz l => (frzs f l).map .fz
  | .ref i => f i
def frzs (f : Nat → Option Val) : List Val → Option (List Val)
  | [] => some []
  | v :: l => (frz f v).bind fun w => (frzs f l).map (w :: ·)
end
def frzN (h : Hv) (n0 : Nat) : Nat → Nat → Option Val
  | 0, i => if i < n0 then some (.ref i) else none
  | k + 1, i => if i < n0 then some (.ref i) else match h[i]? with
    | some (.lst l) => (frzs (frzN h n0 k) l).map .lst
    | _ => none
mutual
def below (n : Nat) : Val → Bool
  | .tup l => belows n l
  | .lst l => belows n l
  | .fz l => belows n l
  | .ref i => decide (i < n)
  | _ => true
def belows (n : Nat) : List Val → Bool
  | [] => true
  | v :: l => below n v && belows n l
end
def belowO (n : Nat) : Ob → Bool
  | .lst l => belows n l
  | .dic l => belows n (l.map (·.2))
  | .ins _ fs => belows n (fs.map (·.2))
  | .tbl _ => true
  | .dn l => belows n (l.map (·.1)) && belows n (l.map (·.2))
def kept (n : Nat) (h h' : Hv) : Prop := n ≤ h'.length ∧ ∀ i < n, h'[i]? = h[i]? ∨ ∀ o, h'[i]? = some o → belowO n o = true
open Classical in
noncomputable def tidy (r : Res Val) (h : Hv) : Res Val := match r with
  | .ok v h' => if kept h.length h h' then (match frz (frzN h' h.length h'.length) v with
    | some w => .ok w (h'.take h.length)
    | none => .fail) else .fail
  | .exc e h' => if kept h.length h h' ∧ e.fs = [] then .exc e (h'.take h.length) else .fail
  | .fail => .fail
section
variable {K : PySem.W.Frag} {g g' : Gh} {H H0 : Hp} {t : List Addr}
mutual
theorem VR.cut {n : Nat} (hn : n = g.m.length) (hm : g'.m = g.m ++ t) (ho : ∀ a, ¬ g'.own a → ¬ g.own a) : ∀ {v : Val} {x : V}, below n v = true → VR K g' H v x → VR K g H v x
  | .non, x, _, q => by simpa only [VR] using q
  | .bl b, x, _, q => by simpa only [VR] using q
  | .int i, x, _, q => by simpa only [VR] using q
  | .str s, x, _, q => by simpa only [VR] using q
  | .tup l, x, b, q => by
    simp only [VR] at q ⊢
    obtain ⟨a, xs, e, s, r⟩ := q
    exact ⟨a, xs, e, s, VRs.cut hn hm ho b r⟩
  | .lst l, x, b, q => by
    simp only [VR] at q ⊢
    obtain ⟨a, xs, e, n, s, r⟩ := q
    exact ⟨a, xs, e, ho a n, s, VRs.cut hn hm ho b r⟩
  | .fz l, x, b, q => by
    simp only [VR] at q ⊢
    obtain ⟨a, xs, e, s, r⟩ := q
    exact ⟨a, xs, e, s, VRs.cut hn hm ho b r⟩
  | .ref i, x, b, q => by
    simp only [VR] at q ⊢
    obtain ⟨a, e, h⟩ := q
    have hi : i < n := by simpa [below] using b
    exact ⟨a, e, by rw [hm, List.getElem?_append_left (by omega)] at h; exact h⟩
theorem VRs.cut {n : Nat} (hn : n = g.m.length) (hm : g'.m = g.m ++ t) (ho : ∀ a, ¬ g'.own a → ¬ g.own a) : ∀ {l : List Val} {xs : List V}, belows n l = true → VRs K g' H l xs → VRs K g H l xs
  | [], xs, _, q => by simpa only [VRs] using q
  | v :: l, xs, b, q => by
    simp only [VRs] at q ⊢
    obtain ⟨x, r, e, q1, q2⟩ := q
    have b : below n v = true ∧ belows n l = true := by simpa [belows] using b
    exact ⟨x, r, e, VR.cut hn hm ho b.1 q1, VRs.cut hn hm ho b.2 q2⟩
end
mutual
theorem VR.low {n : Nat} (hn : n = g.m.length) : ∀ {v : Val} {x : V}, VR K g H v x → below n v = true
  | .non, x, q => rfl
  | .bl b, x, q => rfl
  | .int i, x, q => rfl
  | .str s, x, q => rfl
  | .tup l, x, q => by
    simp only [VR] at q
    obtain ⟨a, xs, e, s, r⟩ := q
    exact VRs.low hn r
  | .lst l, x, q => by
    simp only [VR] at q
    obtain ⟨a, xs, e, n, s, r⟩ := q
    exact VRs.low hn r
  | .fz l, x, q => by
    simp only [VR] at q
    obtain ⟨a, xs, e, s, r⟩ := q
    exact VRs.low hn r
  | .ref i, x, q => by
    simp only [VR] at q
    obtain ⟨a, e, h⟩ := q
    have := (List.getElem?_eq_some_iff.mp h).1
    simp only [below, decide_eq_true_eq]
    omega
theorem VRs.low {n : Nat} (hn : n = g.m.length) : ∀ {l : List Val} {xs : List V}, VRs K g H l xs → belows n l = true
  | [], xs, q => rfl
  | v :: l, xs, q => by
    simp only [VRs] at q
    obtain ⟨x, r, e, q1, q2⟩ := q
    simp only [belows, VR.low hn q1, VRs.low hn q2, Bool.and_self]
end
theorem OR.low {n : Nat} (hn : n = g.m.length) {a : Addr} {o : Ob} (q : OR K g H a o) : belowO n o = true := by
  cases o with
  | lst l => obtain ⟨xs, e, r⟩ := q; exact r.low hn
  | dic l => obtain ⟨xs, e, r⟩ := q; exact r.2.low hn
  | ins c f => obtain ⟨dx, gs, e, r⟩ := q; exact r.2.low hn
  | tbl t => rfl
  | dn l => obtain ⟨xs, ys, e, p, r1, r2⟩ := q; simp only [belowO, r1.low hn, r2.low hn, Bool.and_true]
theorem OR.cut {n : Nat} (hn : n = g.m.length) (hm : g'.m = g.m ++ t) (ho : ∀ a, ¬ g'.own a → ¬ g.own a) {a : Addr} {o : Ob} (b : belowO n o = true) (q : OR K g' H a o) : OR K g H a o := by
  cases o with
  | lst l => obtain ⟨xs, e, r⟩ := q; exact ⟨xs, e, r.cut hn hm ho b⟩
  | dic l => obtain ⟨xs, e, r⟩ := q; exact ⟨xs, e, r.1, r.2.cut hn hm ho b⟩
  | ins c f => obtain ⟨dx, gs, e, r⟩ := q; exact ⟨dx, gs, e, r.1, r.2.cut hn hm ho b⟩
  | dn l => obtain ⟨xs, ys, e, p, r1, r2⟩ := q; exact ⟨xs, ys, e, p, r1.cut hn hm ho (Bool.and_eq_true_iff.mp b).1, r2.cut hn hm ho (Bool.and_eq_true_iff.mp b).2⟩
  | tbl t => exact ⟨q.1, q.2.stay (fun ps e => e) (fun c o e nt hn => ⟨e, ho _ hn⟩)⟩
mutual
theorem frz_ok {f : Nat → Option Val} (hf : ∀ i w x, f i = some w → VR K g' H (.ref i) x → VR K g H w x) (ho : ∀ a, ¬ g'.own a → ¬ g.own a) : ∀ {v w : Val} {x : V}, frz f v = some w → VR K g' H v x → VR K g H w x
  | .non, w, x, e, q => by simp only [frz, Option.some.injEq] at e; subst e; simpa only [VR] using q
  | .bl b, w, x, e, q => by simp only [frz, Option.some.injEq] at e; subst e; simpa only [VR] using q
  | .int i, w, x, e, q => by simp only [frz, Option.some.injEq] at e; subst e; simpa only [VR] using q
  | .str s, w, x, e, q => by simp only [frz, Option.some.injEq] at e; subst e; simpa only [VR] using q
  | .tup l, w, x, e, q => by
    simp only [frz, Option.map_eq_some_iff] at e
    obtain ⟨k, e, rfl⟩ := e
    simp only [VR] at q ⊢
    obtain ⟨a, xs, e2, s, r⟩ := q
    exact ⟨a, xs, e2, s, frzs_ok hf ho e r⟩
  | .lst l, w, x, e, q => by
    simp only [frz, Option.map_eq_some_iff] at e
    obtain ⟨k, e, rfl⟩ := e
    simp only [VR] at q ⊢
    obtain ⟨a, xs, e2, n, s, r⟩ := q
    exact ⟨a, xs, e2, ho a n, s, frzs_ok hf ho e r⟩
  | .fz l, w, x, e, q => by
    simp only [frz, Option.map_eq_some_iff] at e
    obtain ⟨k, e, rfl⟩ := e
    simp only [VR] at q ⊢
    obtain ⟨a, xs, e2, s, r⟩ := q
    exact ⟨a, xs, e2, s, frzs_ok hf ho e r⟩
  | .ref i, w, x, e, q => hf i w x e q
theorem frzs_ok {f : Nat → Option Val} (hf : ∀ i w x, f i = some w → VR K g' H (.ref i) x → VR K g H w x) (ho : ∀ a, ¬ g'.own a → ¬ g.own a) : ∀ {l k : List Val} {xs : List V}, frzs f l = some k → VRs K g' H l xs → VRs K g H k xs
  | [], k, xs, e, q => by simp only [frzs, Option.some.injEq] at e; subst e; simpa only [VRs] using q
  | v :: l, k, xs, e, q => by
    simp only [frzs, Option.bind_eq_some_iff, Option.map_eq_some_iff] at e
    obtain ⟨w, e1, k', e2, rfl⟩ := e
    simp only [VRs] at q ⊢
    obtain ⟨x, r, e3, q1, q2⟩ := q
    exact ⟨x, r, e3, frz_ok hf ho e1 q1, frzs_ok hf ho e2 q2⟩
end
theorem frzN_ok {h h' : Hv} (R : HR K g H0 h) (R' : HR K g' H h') (E : Ext g H0 g' H) (hm : g'.m = g.m ++ t) (ho : ∀ a, ¬ g'.own a → ¬ g.own a) : ∀ (k i : Nat) (w : Val) (x : V), frzN h' h.length k i = some w → VR K g' H (.ref i) x → VR K g H w x := by
  intro k
  have low : ∀ (i : Nat) (x : V), i < h.length → VR K g' H (.ref i) x → VR K g H (.ref i) x := fun i x hi q => by
    simp only [VR] at q ⊢
    obtain ⟨a, e, q⟩ := q
    exact ⟨a, e, by rw [hm, List.getElem?_append_left (by rw [R.len]; exact hi)] at q; exact q⟩
  induction k with
  | zero =>
    intro i w x e q
    simp only [frzN] at e
    split at e
    · rename_i hi
      cases e
      exact low i x hi q
    · cases e
  | succ k ih =>
    intro i w x e q
    simp only [frzN] at e
    split at e
    · rename_i hi
      cases e
      exact low i x hi q
    · rename_i hi
      split at e
      · rename_i l hl
        simp only [Option.map_eq_some_iff] at e
        obtain ⟨ys, e, rfl⟩ := e
        simp only [VR] at q
        obtain ⟨a, rfl, q⟩ := q
        obtain ⟨xs, e1, r⟩ := R'.obj i _ a hl q
        simp only [VR]
        refine ⟨a, xs, rfl, ?_, e1, frzs_ok ih ho e r⟩
        rintro (z | z)
        · obtain ⟨j, hj, ej⟩ := List.getElem_of_mem z
          have hj' : g'.m[j]? = some a := by
            rw [hm, List.getElem?_append_left hj, List.getElem?_eq_getElem hj, ej]
          have h1 := List.getElem?_eq_some_iff.mp q
          have h2 := List.getElem?_eq_some_iff.mp hj'
          obtain ⟨l1, p1⟩ := h1
          obtain ⟨l2, p2⟩ := h2
          have e3 : i = j := (List.getElem_inj R'.nd).mp (p1.trans p2.symm)
          rw [R.len] at hj
          omega
        · exact R'.dis a (List.mem_of_getElem? q) (by rw [E.r]; exact z)
      · cases e
theorem tidy_ok {h : Hv} {Q : VK} {E : XK} {r : Res Val} (R : HR K g H0 h) (A : AfterC K g H0 Q E (tidy r h)) : AfterC K g H0 Q E r := by
  have main : ∀ {g' : Gh} {H : Hp} {h' : Hv}, Ext g H0 g' H → HR K g' H h' → kept h.length h h' → Ext g H0 g H ∧ HR K g H (h'.take h.length) := fun {g' H h'} X R' kp => by
    obtain ⟨t, hm, nt⟩ := X.m
    have ho : ∀ a, ¬ g'.own a → ¬ g.own a := fun a n z => n (z.elim (fun z => .inl (by rw [hm]; exact List.mem_append_left _ z)) fun z => .inr (by rw [X.r]; exact z))
    refine ⟨⟨⟨[], by simp, by simp⟩, rfl, X.keepN, X.there⟩, ⟨?_, R.nd, R.dis, fun a ha => R'.al a (by rw [X.r]; exact ha), fun i o a e1 e2 => ?_⟩⟩
    · rw [List.length_take, Nat.min_eq_left kp.1]; exact R.len
    · have hi : i < h.length := by rw [← R.len]; exact (List.getElem?_eq_some_iff.mp e2).1
      rw [List.getElem?_take_of_lt hi] at e1
      have hq : OR K g' H a o := R'.obj i o a e1 (by rw [hm, List.getElem?_append_left (by rw [R.len]; exact hi)]; exact e2)
      refine OR.cut (n := h.length) R.len.symm hm ho ?_ hq
      rcases kp.2 i hi with z | z
      · rw [z] at e1
        exact (R.obj i o a e1 e2).low R.len.symm
      · exact z o e1
  cases r with
  | ok v h' =>
    intro g' H x X R' rv
    simp only [tidy] at A
    split at A
    · rename_i kp
      split at A
      · rename_i w ew
        obtain ⟨E1, R1⟩ := main X R' kp
        obtain ⟨t, hm, nt⟩ := X.m
        have ho : ∀ a, ¬ g'.own a → ¬ g.own a := fun a n z => n (z.elim (fun z => .inl (by rw [hm]; exact List.mem_append_left _ z)) fun z => .inr (by rw [X.r]; exact z))
        exact A g H x E1 R1 (frz_ok (frzN_ok R R' X hm ho _) ho ew rv)
      · exact A.elim
    · exact A.elim
  | exc e h' =>
    intro g' H cls d X R' re
    simp only [tidy] at A
    split at A
    · rename_i kp
      obtain ⟨E1, R1⟩ := main X R' kp.1
      refine A g H cls d E1 R1 ?_
      unfold ER at re ⊢
      rw [kp.2] at re ⊢
      exact re
    · exact A.elim
  | fail => exact A
end

/-! ### a def keeps what its body yields -/
abbrev WD (E : XK) : WX := fun cls d _ H => E cls d H
section
variable {P : Program} {w : World} {K : PySem.W.Frag} {mg : Str → Option Value} {base : Heap}
theorem fn_G {name qual : Str} {params : Arguments} {body : List Stmt} {scope : Scope} {f : Addr} {fd : FuncData} {N ps : List Str} {k : Nat} {d : Stm} {D : DF} {dvs : List V} {kws : List (Str × V)} (F : FunD K name qual params body scope dvs kws f fd) (S : FnScope N ps scope)
    (hD : ∀ args h, args.length = ps.length → D args h = runDef N.length d args h ∨ D args h = tidy (runDef N.length d args h) h)
    (hbody : ∀ (cdv : Value) (A : Around) (outer : List Env) (s : Shared) (H : Hp) (E : XK), Room k (A.deeper (envOfC qual scope s.heap.objs.size f cdv)) →
      PassesOwn (model P w) (A.deeper (envOfC qual scope s.heap.objs.size f cdv)) (envOfC qual scope s.heap.objs.size f cdv) (cxOf (L2.CX P w) P w K mg base N qual scope f cdv A outer s H E).xe →
      Takes (cxOf (L2.CX P w) P w K mg base N qual scope f cdv A outer s H E) (WD E) →
      GSs (cxOf (L2.CX P w) P w K mg base N qual scope f cdv A outer s H E) (WD E) body d) : FnOk P w K mg base (L2.CX P w) (k + 1) f fd ps (spG K D ps.length) := by
  refine F.ok S (fun vs H Q E h => h.1) (fun cdv A outer s H vs Q E hr h => ⟨tS K (WD E) d, hbody cdv A outer s H E hr (passes_of rfl) (takes_of rfl rfl rfl rfl), ?_⟩)
  obtain ⟨hl, g, h, args, R, r, A⟩ := h
  have A : AfterC K g H Q E (runDef N.length d args h) := by
    rcases hD args h (by rw [r.length, hl]) with e | e
    · rw [e] at A; exact A
    · rw [e] at A; exact tidy_ok R A
  refine ⟨g, args.map some ++ List.replicate (N.length - args.length) none, h, ?_, R, ?_⟩
  · unfold L2.start
    refine ⟨by simp [r.length], fun i v e => ?_⟩
    by_cases hi : i < args.length
    · rw [List.getElem?_append_left (by simpa using hi), List.getElem?_map] at e
      cases ea : args[i]? with
      | none => rw [ea] at e; cases e
      | some a =>
        rw [ea] at e
        cases e
        obtain ⟨x, e1, e2⟩ := r.get ea
        exact ⟨x, by rw [List.getElem?_append_left (by simpa [← r.length] using hi), List.getElem?_map, e1]; rfl, e2⟩
    · rw [List.getElem?_append_right (by simpa using hi), List.getElem?_replicate] at e
      split at e <;> cases e
  · unfold runDef at A
    cases e : d (args.map some ++ List.replicate (N.length - args.length) none) h with
    | nx l h1 =>
      rw [e] at A
      intro g' H' σ' X R' S'
      exact A g' H' .non X R' (by simp only [VR])
    | rt v h1 => rw [e] at A; exact A
    | exc x l h1 =>
      rw [e] at A
      intro g' H' σ' cls dd X R' S' re
      exact A g' H' cls dd X R' re
    | bk l h1 => rw [e] at A; exact False.elim A
    | ct l h1 => rw [e] at A; exact False.elim A
    | fail => rw [e] at A; exact A
end

/-! ### calls -/
def dCall (D : DF) (r : DenG (List Val)) : Den := fun l h => (r l h).bind fun vs h1 => D vs h1
section
variable {X : Cx} {W : WX}
theorem spG_of {D : DF} {n : Nat} {σ : L2.St} {g : Gh} {H : Hp} {h : Hv} {Q : VK} {args : List Val} {vs : List V} (hn : args.length = n) (R : HR X.K g H h) (r : VRs X.K g H args vs) (A : After X.K W (vr X.K) σ g H Q (D args h)) : spG X.K D n vs H Q (WE W σ) := by
  refine ⟨by rw [← r.length]; exact hn, g, h, args, R, r, ?_⟩
  cases e : D args h with
  | ok v h1 => rw [e] at A; exact A
  | exc x h1 => rw [e] at A; exact A
  | fail => rw [e] at A; exact A
def arity (n : Nat) (D : DF) : DF := fun args h => if args.length = n then D args h else .fail
theorem ge_call {D : DF} {k : Nat} {f : Addr} {fd : FuncData} {ps : List Str} {x : Str} {p pos : Pos} {e : Expr} {es : List Expr} {da : DenG (List Val)} (F : FnOk X.prog X.w X.K X.mg X.base (L2.CX X.prog X.w) k f fd ps (spG X.K D ps.length)) (hr : Room k X.A) (tk : Takes X W)
    (hm : X.mg x = some (.ref f)) (hk : PySem.W.keepIn X.K (.ref f) = true) (hb : Binds X.K fd ps []) (ha : GA X W (e :: es) da) (hn : ∀ l h vs h', da l h = .ok vs h' → vs.length = ps.length) (hg : Gl X x := by rfl) (hdb : (x == ("__debug__" : Str)) = false := by decide +kernel)
    (he : starEach (e :: es) X.env = (false, eval e X.env) :: starEach es X.env := by rfl) (hpl : (backTo pos (starEach es X.env)).any (·.1) = false := by rfl) : GE X W (.Call (.Name x p) (e :: es) [] pos) (dCall D da) := by
  refine PE.imp (pe_callS F hr hg hm hk hb (fun σ => passAt tk σ) ha hdb he hpl) fun σ H Q ⟨g, l, h, S, R, A⟩ => ?_
  refine ⟨g, l, h, S, R, ?_⟩
  unfold dCall at A
  cases ed : da l h with
  | ok vs h1 =>
    rw [ed] at A
    intro g' H' ws E R' r
    exact spG_of (hn l h vs h1 ed) R' r (After.ext E A)
  | exc x h1 => rw [ed] at A; exact A
  | fail => rw [ed] at A; exact A

/-! ### raise, try -/
def sRaise (c : List Nat) : Stm := fun l h => .exc ⟨c, []⟩ l h
theorem gs_raise (c : List Nat) {x m : Str} {j : Nat} {p p2 pos pos2 : Pos} (hc : X.calm = true) (tk : Takes X W) (q : PySem.W.excIn X.K (clsA X.K c) He.veBase "ValueError.__new__" = true) (gC : X.mg x = some (.ref (clsA X.K c))) (kC : PySem.W.keepIn X.K (.ref (clsA X.K c)) = true)
    (h1 : PySem.W.subIn X.K (.ref (clsA X.K c)) (.type "BaseException") = some true) (h2 : PySem.W.typeIn X.K (.ref (clsA X.K c)) = some (.type "type")) (hg : Gl X x := by rfl) (hdb : (x == ("__debug__" : Str)) = false := by decide +kernel) :
    GS X W (.Raise (some (.Call (.Name x p) [.Constant (.str m) j p2] [] pos)) none pos2) (sRaise c) := by
  refine PS.imp (ps_raise hc tk (pmk_own PySem.F.excBase_ValueError q gC kC (raises_own h1 h2) hg hdb)) fun D σ H ⟨g, l, h, S, R, A⟩ => ?_
  exact A g H σ _ none Ext.refl R S ⟨rfl, rfl⟩
def SRes.noExc (r : SRes) : SRes := match r with
  | .exc _ _ _ => .fail
  | r => r
@[simp] theorem SRes.noExc_nx (l : Loc) (h : Hv) : (SRes.nx l h).noExc = .nx l h := rfl
@[simp] theorem SRes.noExc_rt (v : Val) (h : Hv) : (SRes.rt v h).noExc = .rt v h := rfl
/-- body; where it raises what the class takes, the suite -/
def sTry (tbl : List (List Nat × Bool)) (body suite : Stm) : Stm := fun l h => match body l h with
  | .exc e l1 h1 => (match tbl.lookup e.c with
    | some true => (suite l1 h1).noExc
    | some false => .exc e l1 h1
    | none => .fail)
  | r => r
theorem AfterS.mono {K : PySem.W.Frag} {W W' : WX} {g : Gh} {H : Hp} {D : Ends} {r : SRes} (A : AfterS K W g H D r) (h : ∀ cls d σ H, W cls d σ H → W' cls d σ H) : AfterS K W' g H D r := by
  cases r with
  | exc e l h1 => exact fun g' H' σ' cls d E R S re => h _ _ _ _ (A g' H' σ' cls d E R S re)
  | nx l h1 => exact A
  | bk l h1 => exact A
  | ct l h1 => exact A
  | rt l h1 => exact A
  | fail => exact A
theorem gs_try (tbl : List (List Nat × Bool)) {x : Str} {c : Value} {body suite : List Stmt} {b₀ : Stmt} {np pos pos' : Pos} {db ds : Stm} (hs : X.stack = X.env :: X.outer) (hf : X.env.frame = some X.env.locals) (hc : Names X x c) (tk : Takes X W)
    (ht : ∀ p ∈ tbl, PySem.W.exmOne X.K (.ref (clsA X.K p.1)) c = some p.2)
    (hb : ∀ (W' : WX) (pn : List (Addr × Obj)) (xe : Value → Shared → Prop), Takes (X.tr pn xe) W' → PassesOwn (model X.prog X.w) X.A X.env xe → GSs (X.tr pn xe) W' body db)
    (hsu : ∀ (a : Addr) (pn : List (Addr × Obj)), GSs (X.suite a pn) W0 (b₀ :: suite) ds) :
    GS X W (.Try body [.ExceptHandler (some (.Name x np)) none (b₀ :: suite) pos'] [] [] pos) (sTry tbl db ds) := by
  refine PS.imp (ps_try_only (tb := fun W' => tS X.K W' db) (ts := fun a cls d => tS X.K W0 ds) hs hf hc tk hb (fun a oe cls d pn _ _ => hsu a _)) fun D σ H ⟨g, l, h, S, R, A⟩ => ?_
  refine ⟨g, l, h, S, R, ?_⟩
  unfold sTry at A
  cases e : db l h with
  | nx l1 h1 => rw [e] at A; exact A
  | bk l1 h1 => rw [e] at A; exact A
  | ct l1 h1 => rw [e] at A; exact A
  | rt l1 h1 => rw [e] at A; exact A
  | fail => rw [e] at A; exact A
  | exc x1 l1 h1 =>
    rw [e] at A
    simp only at A
    intro g' H' σ' cls d E R' S' re
    cases el : tbl.lookup x1.c with
    | none => rw [el] at A; exact A.elim
    | some b =>
      rw [el] at A
      have hm : ∃ y, (y, b) ∈ tbl ∧ y = x1.c := by
        have gen : ∀ (tb : List (List Nat × Bool)), tb.lookup x1.c = some b → ∃ y, (y, b) ∈ tb ∧ y = x1.c := by
          intro tb
          induction tb with
          | nil => intro z; cases z
          | cons p tb ih =>
            intro z
            rw [List.lookup_cons] at z
            split at z
            · rename_i q
              cases z
              exact ⟨p.1, List.mem_cons_self .., (by simpa using q : x1.c = p.1).symm⟩
            · obtain ⟨y, h1, h2⟩ := ih z
              exact ⟨y, List.mem_cons_of_mem _ h1, h2⟩
        exact gen tbl el
      obtain ⟨y, hy, rfl⟩ := hm
      have he := ht _ hy
      rw [← re.1] at he
      refine ⟨b, he, fun hb a na => ?_, fun hb => ?_⟩
      · subst hb
        have A2 : AfterS X.K W g' H' D (ds l1 h1).noExc := AfterS.ext E A
        refine ⟨g', l1, h1, S', R', ?_⟩
        cases es : ds l1 h1 with
        | exc x2 l2 h2 => rw [es] at A2; exact False.elim A2
        | nx l2 h2 => rw [es] at A2; exact A2
        | bk l2 h2 => rw [es] at A2; exact A2
        | ct l2 h2 => rw [es] at A2; exact A2
        | rt l2 h2 => rw [es] at A2; exact A2
        | fail => rw [es] at A2; exact A2
      · subst hb
        exact A g' H' σ' cls d E R' S' re
end
end GH
set_option Elab.async false
set_option linter.all false
set_option maxRecDepth 100000
set_option maxHeartbeats 1000000
set_option autoImplicit false
/-! ==, in, isinstance, slices, built-ins over lists, dicts. -/
namespace GH
open PySem PySem.Spec PyProof.Rows L2
variable [TheWorld]

/-! ### values as data -/
mutual
def pd : Val → PyData
  | .non => .none
  | .bl b => .bool b
  | .int i => .int i
  | .str s => .str (sOf s)
  | .tup l => .tuple (pds l)
  | .lst l => .list (pds l)
  | .fz l => .list (pds l)
  | .ref _ => .none
def pds : List Val → List PyData
  | [] => []
  | v :: l => pd v :: pds l
end
mutual
/-- no object of the heap in it, texts of proper signs -/
def okV : Val → Bool
  | .str s => s.all fun c => decide (c < 0x110000)
  | .tup l => okVs l
  | .lst l => okVs l
  | .fz l => okVs l
  | .ref _ => false
  | _ => true
def okVs : List Val → Bool
  | [] => true
  | v :: l => okV v && okVs l
end
mutual
def dpV : Val → Nat
  | .tup l => dpVs l + 1
  | .lst l => dpVs l + 1
  | .fz l => dpVs l + 1
  | _ => 0
def dpVs : List Val → Nat
  | [] => 0
  | v :: l => max (dpV v) (dpVs l)
end
mutual
theorem pd_depth : ∀ v : Val, (pd v).depth = dpV v
  | .non => rfl
  | .bl b => rfl
  | .int i => rfl
  | .str s => rfl
  | .tup l => by simp only [pd, PyData.depth, dpV, pds_depth l]
  | .lst l => by simp only [pd, PyData.depth, dpV, pds_depth l]
  | .fz l => by simp only [pd, PyData.depth, dpV, pds_depth l]
  | .ref i => rfl
theorem pds_depth : ∀ l : List Val, PyData.depthAll (pds l) = dpVs l
  | [] => rfl
  | v :: l => by simp only [pds, PyData.depthAll, dpVs, pd_depth v, pds_depth l]
end
mutual
theorem pd_lay : ∀ v : Val, okV v = true → (pd v).canLay0 = true
  | .non, _ => rfl
  | .bl b, _ => rfl
  | .int i, _ => rfl
  | .str s, h => by
    simp only [pd, PyData.canLay0, PyData.strOk, sOf]
    simpa [okV] using h
  | .tup l, h => by simp only [pd, PyData.canLay0]; exact pds_lay l h
  | .lst l, h => by simp only [pd, PyData.canLay0]; exact pds_lay l h
  | .fz l, h => by simp only [pd, PyData.canLay0]; exact pds_lay l h
  | .ref i, h => by cases h
theorem pds_lay : ∀ l : List Val, okVs l = true → PyData.canLayAll0 (pds l) = true
  | [], _ => rfl
  | v :: l, h => by
    have h : okV v = true ∧ okVs l = true := by simpa [okVs] using h
    simp only [pds, PyData.canLayAll0, pd_lay v h.1, pds_lay l h.2, Bool.and_self]
end
section
variable {K : PySem.W.Frag} {g : Gh} {H : Hp}
mutual
theorem VR.dp : ∀ {v : Val} {x : V}, okV v = true → VR K g H v x → Dp K H x (pd v)
  | .non, x, _, q => by simp only [VR] at q; subst q; exact .non
  | .bl b, x, _, q => by simp only [VR] at q; subst q; exact .bl b
  | .int i, x, _, q => by simp only [VR] at q; subst q; exact .int i
  | .str s, x, _, q => by simp only [VR] at q; subst q; exact .str _
  | .tup l, x, o, q => by
    simp only [VR] at q
    obtain ⟨a, xs, rfl, s, r⟩ := q
    exact .tup s (VRs.dp o r)
  | .lst l, x, o, q => by
    simp only [VR] at q
    obtain ⟨a, xs, rfl, _, s, r⟩ := q
    exact .lst (SqL.of s) (VRs.dp o r)
  | .fz l, x, o, q => by
    simp only [VR] at q
    obtain ⟨a, xs, rfl, s, r⟩ := q
    exact .lst s.sq (VRs.dp o r)
  | .ref i, x, o, q => by cases o
theorem VRs.dp : ∀ {l : List Val} {xs : List V}, okVs l = true → VRs K g H l xs → DpAll K H xs (pds l)
  | [], xs, _, q => by simp only [VRs] at q; subst q; exact .nil
  | v :: l, xs, o, q => by
    simp only [VRs] at q
    obtain ⟨x, r, rfl, q1, q2⟩ := q
    have o : okV v = true ∧ okVs l = true := by simpa [okVs] using o
    exact .cons (VR.dp o.1 q1) (VRs.dp o.2 q2)
end
end
def veq (a b : Val) : Bool := PyData.eqv (pd a) (pd b)
/-- a list of ours, read -/
def thaw (h : Hv) (v : Val) : Val := match v with
  | .ref i => match h[i]? with
    | some (.lst l) => .lst l
    | _ => v
  | v => v
theorem thaw_dp {K : PySem.W.Frag} {g : Gh} {H : Hp} {h : Hv} {v : Val} {x : V} (R : HR K g H h) (r : VR K g H v x) (o : okV (thaw h v) = true) : Dp K H x (pd (thaw h v)) := by
  cases v with
  | ref i =>
    simp only [thaw] at o ⊢
    split at o
    · rename_i l hl
      simp only [VR] at r
      obtain ⟨a, rfl, hm⟩ := r
      obtain ⟨xs, e1, e2⟩ := ref_at R hl hm
      exact .lst (SqL.of e1) (VRs.dp o e2)
    · cases o
  | _ => exact VR.dp o r
def eqOk (a b : Val) : Bool := okV a && okV b && decide (min (dpV a) (dpV b) ≤ 190)
def vEq (v u : Val) (h : Hv) : Res Val := match v, u with
  | .int i, .int j => .ok (.bl (decide (i = j))) h
  | .str a, .str b => .ok (.bl (decide (a = b))) h
  | v, u => if eqOk (thaw h v) (thaw h u) then .ok (.bl (veq (thaw h v) (thaw h u))) h else .fail
def vNe (v u : Val) (h : Hv) : Res Val := match v, u with
  | .int i, .int j => .ok (.bl (!decide (i = j))) h
  | .str a, .str b => .ok (.bl (!decide (a = b))) h
  | v, u => if eqOk (thaw h v) (thaw h u) then .ok (.bl (!veq (thaw h v) (thaw h u))) h else .fail
section
variable {X : Cx}
def rEqG (K : PySem.W.Frag) (neg : Bool) : R2 := fun x y H Q => ∃ d e, Dp K H x d ∧ Dp K H y e ∧ d.canLay0 = true ∧ e.canLay0 = true ∧ min d.depth e.depth ≤ 190 ∧ Q (.bl (if neg then !PyData.eqv d e else PyData.eqv d e)) H
theorem op_eqG (hu : X.A.units + 200 < cLine) : OpR X (compareOp .Eq) (rEqG X.K false) := by
  intro pins s σ H x y v u Q I rx ry h
  obtain ⟨d, e, hd, he, sd, se, hm, q⟩ := h
  obtain ⟨as, r1⟩ := Dp.reads I d x v hd rx
  obtain ⟨bs, r2⟩ := Dp.reads I e y u he ry
  exact SeqAt.compareEq_reads r1 r2 sd se (by omega) ⟨.bl _, H, I, rfl, q⟩
theorem op_neG (hu : X.A.units + 200 < cLine) : OpR X (compareOp .NotEq) (rEqG X.K true) := by
  intro pins s σ H x y v u Q I rx ry h
  obtain ⟨d, e, hd, he, sd, se, hm, q⟩ := h
  obtain ⟨as, r1⟩ := Dp.reads I d x v hd rx
  obtain ⟨bs, r2⟩ := Dp.reads I e y u he ry
  exact SeqAt.compareNe_reads r1 r2 sd se (by omega) ⟨.bl _, H, I, rfl, q⟩
theorem eqG_ok {W : WX} {g : Gh} {H : Hp} {h : Hv} {σ : L2.St} {v u : Val} {x y : V} {Q : VK} {neg : Bool} (R : HR X.K g H h) (rv : VR X.K g H v x) (ru : VR X.K g H u y)
    (A : After X.K W (vr X.K) σ g H Q (if eqOk (thaw h v) (thaw h u) then .ok (.bl (if neg then !veq (thaw h v) (thaw h u) else veq (thaw h v) (thaw h u))) h else .fail)) : rEqG X.K neg x y H Q := by
  split at A
  · rename_i o
    simp only [eqOk, Bool.and_eq_true, decide_eq_true_eq] at o
    exact ⟨_, _, thaw_dp R rv o.1.1, thaw_dp R ru o.1.2, pd_lay _ o.1.1, pd_lay _ o.1.2, by rw [pd_depth, pd_depth]; exact o.2, A g H _ Ext.refl R (by simp only [VR]; rfl)⟩
  · exact A.elim
theorem og_eq (hu : X.A.units + 200 < cLine) : OpG X (compareOp .Eq) vEq := by
  refine ⟨_, op_eq.or (op_eqG hu), fun W g H h σ v u x y Q R rv ru A => ?_⟩
  unfold vEq at A
  split at A
  · simp only [VR] at rv ru
    subst rv ru
    refine .inl ⟨rfl, ?_⟩
    rename_i i j
    have e : decide (V.int i = V.int j) = decide (i = j) := by by_cases q : i = j <;> simp [q]
    rw [e]
    exact A g H _ Ext.refl R (by simp only [VR])
  · simp only [VR] at rv ru
    subst rv ru
    refine .inl ⟨rfl, ?_⟩
    rename_i i j
    have e : decide (V.str (sOf i) = V.str (sOf j)) = decide (i = j) := by
      by_cases q : i = j
      · simp [q]
      · have : ¬ V.str (sOf i) = V.str (sOf j) := fun z => q (sOf_inj (V.str.inj z))
        simp [q, this]
    rw [e]
    exact A g H _ Ext.refl R (by simp only [VR])
  · exact .inr (eqG_ok (neg := false) R rv ru A)
theorem og_ne (hu : X.A.units + 200 < cLine) : OpG X (compareOp .NotEq) vNe := by
  refine ⟨_, op_ne.or (op_neG hu), fun W g H h σ v u x y Q R rv ru A => ?_⟩
  unfold vNe at A
  split at A
  · simp only [VR] at rv ru
    subst rv ru
    refine .inl ⟨rfl, ?_⟩
    rename_i i j
    have e : decide (V.int i = V.int j) = decide (i = j) := by by_cases q : i = j <;> simp [q]
    rw [e]
    exact A g H _ Ext.refl R (by simp only [VR])
  · simp only [VR] at rv ru
    subst rv ru
    refine .inl ⟨rfl, ?_⟩
    rename_i i j
    have e : decide (V.str (sOf i) = V.str (sOf j)) = decide (i = j) := by
      by_cases q : i = j
      · simp [q]
      · have : ¬ V.str (sOf i) = V.str (sOf j) := fun z => q (sOf_inj (V.str.inj z))
        simp [q, this]
    rw [e]
    exact A g H _ Ext.refl R (by simp only [VR])
  · exact .inr (eqG_ok (neg := true) R rv ru A)

/-! ### in -/
def inSeq (x : Val) (l : List Val) : Bool := l.any fun z => veq z x
def inOk (x : Val) (l : List Val) : Bool := okV x && okVs l && decide (min (dpVs l) (dpV x) ≤ 190)
/-- x in c -/
def isIn (x c : Val) (h : Hv) : Res Bool := match c with
  | .str s => match x with
    | .str [a] => .ok (s.contains a) h
    | _ => .fail
  | c => match seqOf h c with
    | some l => if inOk (thaw h x) l then .ok (inSeq (thaw h x) l) h else .fail
    | none => match dicOf h c, keyOf x with
      | some l, some _ => .ok (dGet l x).isSome h
      | _, _ => .fail
def vIn (x c : Val) (h : Hv) : Res Val := (isIn x c h).bind fun b h1 => .ok (.bl b) h1
def vNotIn (x c : Val) (h : Hv) : Res Val := (isIn x c h).bind fun b h1 => .ok (.bl (!b)) h1
def rInG (K : PySem.W.Frag) (neg : Bool) : R2 := fun x y H Q => ∃ d ds, Dp K H x d ∧ (Dp K H y (.list ds) ∨ Dp K H y (.tuple ds)) ∧ d.canLay0 = true ∧ PyData.canLayAll0 ds = true ∧ min (PyData.depthAll ds) d.depth ≤ 190 ∧
  Q (.bl (if neg then !(ds.any fun z => PyData.eqv z d) else ds.any fun z => PyData.eqv z d)) H
theorem op_inG (hu : X.A.units + 200 < cLine) : OpR X (compareOp .In) (rInG X.K false) := by
  intro pins s σ H x y v u Q I rx ry h
  obtain ⟨d, ds, hd, he | he, sd, se, hm, q⟩ := h
  · obtain ⟨as, r1⟩ := Dp.reads I d x v hd rx
    obtain ⟨bs, r2⟩ := Dp.reads I (.list ds) y u he ry
    exact SeqAt.in_list_reads r2 r1 se sd (by omega) ⟨.bl _, H, I, rfl, q⟩
  · obtain ⟨as, r1⟩ := Dp.reads I d x v hd rx
    obtain ⟨bs, r2⟩ := Dp.reads I (.tuple ds) y u he ry
    exact SeqAt.in_tuple_reads r2 r1 se sd (by omega) ⟨.bl _, H, I, rfl, q⟩
theorem op_notInG (hu : X.A.units + 200 < cLine) : OpR X (compareOp .NotIn) (rInG X.K true) := by
  intro pins s σ H x y v u Q I rx ry h
  obtain ⟨d, ds, hd, he | he, sd, se, hm, q⟩ := h
  · obtain ⟨as, r1⟩ := Dp.reads I d x v hd rx
    obtain ⟨bs, r2⟩ := Dp.reads I (.list ds) y u he ry
    exact SeqAt.notIn_list_reads r2 r1 se sd (by omega) ⟨.bl _, H, I, rfl, q⟩
  · obtain ⟨as, r1⟩ := Dp.reads I d x v hd rx
    obtain ⟨bs, r2⟩ := Dp.reads I (.tuple ds) y u he ry
    exact SeqAt.notIn_tuple_reads r2 r1 se sd (by omega) ⟨.bl _, H, I, rfl, q⟩
def rInS (neg : Bool) : R2 := fun x y H Q => ∃ (c : Nat) (z : Str), x = .str ⟨#[c]⟩ ∧ y = .str z ∧ Q (.bl (if neg then !decide (c ∈ z.cps.toList) else decide (c ∈ z.cps.toList))) H
def rInDc (neg : Bool) : R2 := fun x y H Q => ∃ a o, y = .ref a ∧ DGet H a x o ∧ Q (.bl (if neg then !o.isSome else o.isSome)) H
theorem op_inD' (hu : X.A.units + 200 < cLine) : OpR X (compareOp .In) (rInDc false) := by
  intro pins s σ H x y v u Q I rx ry h
  obtain ⟨a, o, rfl, g, q⟩ := h
  obtain rfl : u = Value.ref a := ry
  exact d_in (by omega) I g rx fun s' I' => ⟨.bl _, H, I', rfl, q⟩
theorem op_notInD' (hu : X.A.units + 200 < cLine) : OpR X (compareOp .NotIn) (rInDc true) := by
  intro pins s σ H x y v u Q I rx ry h
  obtain ⟨a, o, rfl, g, q⟩ := h
  obtain rfl : u = Value.ref a := ry
  exact d_notIn (by omega) I g rx fun s' I' => ⟨.bl _, H, I', rfl, q⟩
theorem any_pds (x : Val) : ∀ l : List Val, ((pds l).any fun z => PyData.eqv z (pd x)) = inSeq x l
  | [] => rfl
  | v :: l => by simp only [pds, List.any_cons, inSeq, veq, any_pds x l]
theorem seqOf_dp {K : PySem.W.Frag} {g : Gh} {H : Hp} {h : Hv} {v : Val} {x : V} {l : List Val} (R : HR K g H h) (r : VR K g H v x) (e : seqOf h v = some l) (o : okVs l = true) : Dp K H x (.list (pds l)) ∨ Dp K H x (.tuple (pds l)) := by
  obtain ⟨a, xs, rfl, s, rs⟩ := seqOf_ok R r e
  rcases s with s | s
  · exact .inl (.lst s (VRs.dp o rs))
  · exact .inr (.tup s (VRs.dp o rs))
theorem isIn_ok {W : WX} {g : Gh} {H : Hp} {h : Hv} {σ : L2.St} {v u : Val} {x y : V} {Q : VK} (neg : Bool) (R : HR X.K g H h) (rv : VR X.K g H v x) (ru : VR X.K g H u y)
    (A : After X.K W (vr X.K) σ g H Q ((isIn v u h).bind fun b h1 => .ok (.bl (if neg then !b else b)) h1)) : rInS neg x y H Q ∨ rInG X.K neg x y H Q ∨ rInDc neg x y H Q := by
  unfold isIn at A
  split at A
  · rename_i s
    split at A
    · rename_i a
      simp only [VR] at rv ru
      subst rv ru
      refine .inl ⟨a, _, rfl, rfl, ?_⟩
      have e : decide (a ∈ (sOf s).cps.toList) = s.contains a := by rw [Bool.eq_iff_iff]; exact ⟨fun z => by simpa [sOf] using of_decide_eq_true z, fun z => decide_eq_true (by simpa [sOf] using z)⟩
      rw [e]
      exact A g H _ Ext.refl R (by simp only [VR])
    · exact A.elim
  · split at A
    · rename_i l hl
      split at A
      · rename_i o
        simp only [inOk, Bool.and_eq_true, decide_eq_true_eq] at o
        refine .inr (.inl ⟨pd (thaw h v), pds l, thaw_dp R rv o.1.1, seqOf_dp R ru hl o.1.2, pd_lay _ o.1.1, pds_lay _ o.1.2, by rw [pds_depth, pd_depth]; exact o.2, ?_⟩)
        rw [any_pds]
        exact A g H _ Ext.refl R (by simp only [VR])
      · exact A.elim
    · split at A
      · rename_i l k hl hk
        obtain ⟨i, a, ks, rfl, rfl, hm, hi, ha, d⟩ := dicOf_ok R ru hl
        obtain ⟨d1, d2⟩ := DR.get hk d
        have A : After X.K W (vr X.K) σ g H Q (.ok (.bl (if neg then !(dGet l v).isSome else (dGet l v).isSome)) h) := A
        rw [key_V rv hk]
        have hs : (valV ks k).isSome = (dGet l v).isSome := by
          cases e : dGet l v with
          | none => rw [d2 e]; rfl
          | some w => obtain ⟨z, e1, _⟩ := d1 w e; rw [e1]; rfl
        refine .inr (.inr ⟨a, _, rfl, DGet.k ha, ?_⟩)
        rw [hs]
        exact A g H _ Ext.refl R (by simp only [VR])
      · exact A.elim
theorem og_in (hu : X.A.units + 200 < cLine) : OpG X (compareOp .In) vIn :=
  ⟨_, (show OpR X (compareOp .In) (rInS false) from op_in_sign).or ((op_inG hu).or (op_inD' hu)), fun W g H h σ v u x y Q R rv ru A => isIn_ok false R rv ru A⟩
theorem og_notIn (hu : X.A.units + 200 < cLine) : OpG X (compareOp .NotIn) vNotIn :=
  ⟨_, (show OpR X (compareOp .NotIn) (rInS true) from op_notIn_sign).or ((op_notInG hu).or (op_notInD' hu)), fun W g H h σ v u x y Q R rv ru A => isIn_ok true R rv ru A⟩
end

/-! ### isinstance -/
inductive Ty where
  | non | bool | int | str | tuple | list | dict
  deriving DecidableEq
def Ty.name : Ty → String
  | .non => "NoneType" | .bool => "bool" | .int => "int" | .str => "str" | .tuple => "tuple" | .list => "list" | .dict => "dict"
def tyOf (h : Hv) : Val → Option Ty
  | .non => some .non
  | .bl _ => some .bool
  | .int _ => some .int
  | .str _ => some .str
  | .tup _ => some .tuple
  | .lst _ => some .list
  | .fz _ => some .list
  | .ref i => match h[i]? with
    | some (.lst _) => some .list
    | some (.dic _) => some .dict
    | _ => none
def isiB (a b : Ty) : Bool := decide (a = b) || (decide (a = .bool) && decide (b = .int))
theorem kitB_ok : ∀ a b : Ty, b ≠ .non → kitB a.name b.name = some (isiB a b) := by
  intro a b hb
  cases a <;> cases b <;> first | exact absurd rfl hb | decide +kernel
theorem tyOf_ok {K : PySem.W.Frag} {g : Gh} {H : Hp} {h : Hv} {v : Val} {x : V} {t : Ty} (R : HR K g H h) (r : VR K g H v x) (e : tyOf h v = some t) : TyX K H x (.type t.name) := by
  cases v with
  | non => simp only [tyOf, Option.some.injEq] at e; subst e; simp only [VR] at r; subst r; exact .base .non
  | bl b => simp only [tyOf, Option.some.injEq] at e; subst e; simp only [VR] at r; subst r; exact .base (.bl b)
  | int b => simp only [tyOf, Option.some.injEq] at e; subst e; simp only [VR] at r; subst r; exact .base (.int b)
  | str b => simp only [tyOf, Option.some.injEq] at e; subst e; simp only [VR] at r; subst r; exact .base (.str _)
  | tup l =>
    simp only [tyOf, Option.some.injEq] at e
    subst e
    simp only [VR] at r
    obtain ⟨a, xs, rfl, s, _⟩ := r
    rcases s with (s | ⟨o, s⟩) | ⟨o, its, n, hk, hc, _⟩
    · exact .base (.tup s)
    · exact .fTuple s
    · exact .kTuple hk hc
  | lst l =>
    simp only [tyOf, Option.some.injEq] at e
    subst e
    simp only [VR] at r
    obtain ⟨a, xs, rfl, _, s, _⟩ := r
    exact .base (.lst s)
  | fz l =>
    simp only [tyOf, Option.some.injEq] at e
    subst e
    simp only [VR] at r
    obtain ⟨a, xs, rfl, s, _⟩ := r
    rcases s with ⟨o, s⟩ | ⟨o, its, n, hk, hc, _⟩
    · exact .base (.frz s)
    · exact .kList hk hc
  | ref i =>
    simp only [VR] at r
    obtain ⟨a, rfl, hm⟩ := r
    simp only [tyOf] at e
    split at e
    · rename_i l hl
      cases e
      obtain ⟨xs, e1, _⟩ := ref_at R hl hm
      exact .base (.lst e1)
    · rename_i l hl
      cases e
      obtain ⟨xs, e1, _⟩ := ref_at R hl hm
      exact .base (.dK e1)
    · cases e
def dIsi (t : Ty) (d : Den) : Den := fun l h => (d l h).bind fun v h1 => match tyOf h1 v with
  | some a => .ok (.bl (isiB a t)) h1
  | none => .fail
section
variable {X : Cx} {W : WX}
/-- isinstance(e, T), T a built-in type by its name -/
theorem ge_isi (t : Ty) {e : Expr} {d : Den} {x y : Str} {p q pos : Pos} (he : GE X W e d) (hm : X.mg x = none) (hmt : X.mg y = none) (ht : t ≠ .non := by decide) (hg : Gl X x := by rfl) (hgt : Gl X y := by rfl) (hv : bootBuiltins x = some (.builtin "isinstance") := by decide +kernel) (hvt : bootBuiltins y = some (.type t.name) := by decide +kernel)
    (hn : x ≠ "__name__" := by decide +kernel) (hdb : (x == ("__debug__" : Str)) = false := by decide +kernel) (hnt : y ≠ "__name__" := by decide +kernel) (hdbt : (y == ("__debug__" : Str)) = false := by decide +kernel)
    (hs : starEach [e, .Name y q] X.env = (false, eval e X.env) :: starEach [.Name y q] X.env := by rfl) (hs2 : starEach [.Name y q] X.env = (false, eval (.Name y q) X.env) :: starEach [] X.env := by rfl) (hpl : (backTo pos (starEach [.Name y q] X.env)).any (·.1) = false := by rfl) :
    GE X W (.Call (.Name x p) [e, .Name y q] [] pos) (dIsi t d) := by
  have hy : PE X (.Name y q) (tC (.ty t.name)) := pe_bltn hgt hmt hvt rfl hnt hdbt
  refine PE.imp (pe_callB call_isi hg hm hv (pa_cons he (pa_cons hy pa_nil hs2) hs) hn hdb hs hpl) fun σ H Q ⟨g, l, h, S, R, A⟩ => ?_
  refine tG_of S R A fun v h1 g1 H1 x E S1 R1 r1 A1 => ?_
  show rIsi X.K [x, .ty t.name] H1 Q
  cases et : tyOf h1 v with
  | none => rw [et] at A1; exact A1.elim
  | some a =>
    rw [et] at A1
    exact ⟨x, _, _, _, isiB a t, rfl, .ty _, tyOf_ok R1 r1 et, kit_ty (kitB_ok a t ht), A1 g1 H1 _ Ext.refl R1 (by simp only [VR])⟩

/-! ### slices -/
def cut {α : Type} (l : List α) (lo hi : Option Int) : List α := (l.drop (HT.sIx l.length 0 lo)).take (HT.sIx l.length l.length hi - HT.sIx l.length 0 lo)
abbrev DO := Loc → Hv → Res (Option Int)
def oNone : DO := fun _ h => .ok none h
def oSome (d : Den) : DO := fun l h => (d l h).bind fun v h1 => match v with
  | .int i => .ok (some i) h1
  | _ => .fail
abbrev orl : Gh → Hp → Option Int → Option Int → Prop := fun _ _ a b => a = b
def GO (X : Cx) (W : WX) (e : Option Expr) (d : DO) : Prop := PO X e (tG X.K W orl d)
theorem PO.imp {e : Option Expr} {t t' : TO} (p : PO X e t) (h : ∀ σ H Q, t' σ H Q → t σ H Q) : PO X e t' := ⟨fun pins s σ H Q I q => p.run pins s σ H Q I (h σ H Q q)⟩
theorem go_none : GO X W none oNone := PO.imp po_none fun σ H Q ⟨g, l, h, S, R, A⟩ => A g H none Ext.refl R rfl
theorem go_some {e : Expr} {d : Den} (he : GE X W e d) : GO X W (some e) (oSome d) := by
  refine PO.imp (po_some he) fun σ H Q ⟨g, l, h, S, R, A⟩ => ?_
  refine tG_of S R A fun v h1 g1 H1 x E S1 R1 r1 A1 => ?_
  cases v with
  | int i =>
    simp only [VR] at r1
    exact ⟨i, r1, A1 g1 H1 _ Ext.refl R1 rfl⟩
  | _ => exact A1.elim
def vCut (v : Val) (lo hi : Option Int) (h : Hv) : Res Val := match v with
  | .tup l => .ok (.tup (cut l lo hi)) h
  | .str s => if s.length ≤ lineN then .ok (.str (cut s lo hi)) h else .fail
  | v => match lstOf h v with
    | some l => .ok (.lst (cut l lo hi)) h
    | none => .fail
def dCut (d : Den) (lo hi : DO) : Den := fun l h => (d l h).bind fun v h1 => (lo l h1).bind fun a h2 => (hi l h2).bind fun b h3 => vCut v a b h3
theorem VRs.cut' {K : PySem.W.Frag} {g : Gh} {H : Hp} {l : List Val} {xs : List V} (r : VRs K g H l xs) (lo hi : Option Int) : VRs K g H (GH.cut l lo hi) (cutV xs lo hi) := by
  unfold GH.cut cutV
  rw [← r.length]
  exact (r.drop _).take _
theorem cut_all {α : Type} (l : List α) {lo hi : Option Int} (h : HT.sIx l.length 0 lo = 0 ∧ HT.sIx l.length l.length hi = l.length) : cut l lo hi = l := by
  unfold cut
  rw [h.1, h.2]
  simp
end
end GH
set_option Elab.async false
set_option linter.all false
set_option maxRecDepth 100000
set_option maxHeartbeats 1000000
set_option autoImplicit false
/-! Slices, built-in functions of one argument, methods of lists and dicts, stores. -/
namespace GH
open PySem PySem.Spec PyProof.Rows L2
variable [TheWorld]

section
variable {X : Cx} {W : WX}
theorem cutS_eq (s : List Nat) (lo hi : Option Int) : cutS (sOf s) lo hi = sOf (cut s lo hi) := by
  unfold cutS cut sOf
  simp [Str.length]
theorem ge_cut {e : Expr} {d : Den} {lo hi : Option Expr} {dl dh : DO} {pos p2 : Pos} (he : GE X W e d) (hl : GO X W lo dl) (hh : GO X W hi dh) : GE X W (.Subscript e (.Slice lo hi none p2) pos) (dCut d dl dh) := by
  refine PE.imp (pe_slice (sl_list.or (sl_tupA.or sl_str)) he hl hh) fun σ H Q ⟨g, l, h, S, R, A⟩ => ?_
  refine tG_of S R A fun v h1 g1 H1 x E S1 R1 r1 A1 => ?_
  refine tG_of S1 R1 A1 fun a h2 g2 H2 a' E2 S2 R2 e2 A2 => ?_
  refine tG_of S2 R2 A2 fun b h3 g3 H3 b' E3 S3 R3 e3 A3 => ?_
  obtain rfl : a = a' := e2
  obtain rfl : b = b' := e3
  have r := (r1.ext R1 E2).ext R2 E3
  unfold vCut at A3
  split at A3
  · rename_i k
    simp only [VR] at r
    obtain ⟨p, xs, rfl, s, rs⟩ := r
    refine .inr (.inl ⟨p, xs, rfl, s, fun hw => ?_, fun _ q nq => ?_⟩)
    · refine A3 g3 H3 _ Ext.refl R3 ?_
      rw [cut_all k (by rw [rs.length]; exact hw)]
      simp only [VR]
      exact ⟨p, xs, rfl, s, rs⟩
    · obtain ⟨E4, R4⟩ := R3.grow (o := .tup (cutV xs a b)) nq
      refine A3 g3 _ (.ref q) E4 R4 ?_
      simp only [VR]
      exact ⟨q, _, rfl, SqT.of upd_same, (rs.cut' a b).ext R3 E4⟩
  · rename_i k
    split at A3
    · rename_i hl
      simp only [VR] at r
      subst r
      refine .inr (.inr ⟨_, rfl, by rw [sOf_len]; exact line_ok hl, ?_⟩)
      rw [cutS_eq]
      exact A3 g3 H3 _ Ext.refl R3 (by simp only [VR])
    · exact A3.elim
  · split at A3
    · rename_i k hk
      obtain ⟨p, xs, rfl, s, rs⟩ := lstOf_ok R3 r hk
      refine .inl ⟨p, xs, rfl, SqL.of s, fun q nq => ?_⟩
      obtain ⟨E4, R4⟩ := R3.grow (o := .lst (cutV xs a b)) nq
      refine A3 g3 _ (.ref q) E4 R4 ?_
      simp only [VR]
      exact ⟨q, _, rfl, R3.fresh nq, upd_same, (rs.cut' a b).ext R3 E4⟩
    · exact A3.elim
/-- a list reversed: xs[::-1] -/
def vRev (v : Val) (h : Hv) : Res Val := match lstOf h v with
  | some l => .ok (.lst l.reverse) h
  | none => .fail
def dFn (f : Val → Hv → Res Val) (d : Den) : Den := fun l h => (d l h).bind f
theorem ge_rev {e : Expr} {d : Den} {k : Nat} {p1 p2 p3 pos : Pos} (he : GE X W e d) : GE X W (.Subscript e (.Slice none none (some (.UnaryOp .USub (.Constant (.int 1) k p1) p2)) p3) pos) (dFn vRev d) := by
  refine PE.imp (pe_revL he) fun σ H Q ⟨g, l, h, S, R, A⟩ => ?_
  refine tG_of S R A fun v h1 g1 H1 x E S1 R1 r1 A1 => ?_
  unfold vRev at A1
  split at A1
  · rename_i k hk
    obtain ⟨p, xs, rfl, s, rs⟩ := lstOf_ok R1 r1 hk
    refine ⟨p, xs, rfl, SqL.of s, fun q nq => ?_⟩
    obtain ⟨E4, R4⟩ := R1.grow (o := .lst xs.reverse) nq
    refine A1 g1 _ (.ref q) E4 R4 ?_
    simp only [VR]
    exact ⟨q, _, rfl, R1.fresh nq, upd_same, rs.reverse.ext R1 E4⟩
  · exact A1.elim

/-! ### f(e) -/
def C1 (X : Cx) (f : Value) (d : Val → Hv → Res Val) : Prop := ∃ r, CallR X f r ∧ ∀ (W : WX) (g : Gh) (H : Hp) (h : Hv) (σ : L2.St) (v : Val) (x : V) (Q : VK), HR X.K g H h → VR X.K g H v x → After X.K W (vr X.K) σ g H Q (d v h) → r [x] H Q
theorem ge_b1 {id : String} {f : Val → Hv → Res Val} {e : Expr} {d : Den} {x : Str} {p pos : Pos} (hf : C1 X (.builtin id) f) (he : GE X W e d) (hm : X.mg x = none) (hg : Gl X x := by rfl) (hv : bootBuiltins x = some (.builtin id) := by decide +kernel) (hn : x ≠ "__name__" := by decide +kernel) (hdb : (x == ("__debug__" : Str)) = false := by decide +kernel)
    (hst : starEach [e] X.env = (false, eval e X.env) :: starEach [] X.env := by rfl) (hpl : (backTo pos (starEach [] X.env)).any (·.1) = false := by rfl) : GE X W (.Call (.Name x p) [e] [] pos) (dFn f d) := by
  obtain ⟨r, hc, hr⟩ := hf
  refine PE.imp (pe_callB hc hg hm hv (pa_cons he pa_nil hst) hn hdb hst hpl) fun σ H Q ⟨g, l, h, S, R, A⟩ => ?_
  exact tG_of S R A fun v h1 g1 H1 x E S1 R1 r1 A1 => hr W g1 H1 h1 σ v x Q R1 r1 A1
theorem ge_t1 {T : String} {f : Val → Hv → Res Val} {e : Expr} {d : Den} {x : Str} {p pos : Pos} (hf : C1 X (.type T) f) (he : GE X W e d) (hm : X.mg x = none) (hg : Gl X x := by rfl) (hv : bootBuiltins x = some (.type T) := by decide +kernel) (hn : x ≠ "__name__" := by decide +kernel) (hdb : (x == ("__debug__" : Str)) = false := by decide +kernel)
    (hst : starEach [e] X.env = (false, eval e X.env) :: starEach [] X.env := by rfl) (hpl : (backTo pos (starEach [] X.env)).any (·.1) = false := by rfl) : GE X W (.Call (.Name x p) [e] [] pos) (dFn f d) := by
  obtain ⟨r, hc, hr⟩ := hf
  refine PE.imp (pe_callTy hc hg hm hv (pa_cons he pa_nil hst) hn hdb hst hpl) fun σ H Q ⟨g, l, h, S, R, A⟩ => ?_
  exact tG_of S R A fun v h1 g1 H1 x E S1 R1 r1 A1 => hr W g1 H1 h1 σ v x Q R1 r1 A1
def vAbs (v : Val) (h : Hv) : Res Val := match v with
  | .int i => .ok (.int (if i < 0 then -i else i)) h
  | _ => .fail
theorem c1_abs : C1 X (.builtin "abs") vAbs := ⟨_, call_abs, fun W g H h σ v x Q R r A => by
  unfold vAbs at A
  split at A
  · simp only [VR] at r
    subst r
    exact ⟨_, rfl, A g H _ Ext.refl R (by simp only [VR])⟩
  · exact A.elim⟩
def vInt (v : Val) (h : Hv) : Res Val := match v with
  | .int i => .ok (.int i) h
  | .bl b => .ok (.int (if b then 1 else 0)) h
  | _ => .fail
theorem c1_int : C1 X (.type "int") vInt := ⟨_, call_int1, fun W g H h σ v x Q R r A => by
  unfold vInt at A
  split at A
  · simp only [VR] at r
    subst r
    exact .inl ⟨_, rfl, A g H _ Ext.refl R (by simp only [VR])⟩
  · simp only [VR] at r
    subst r
    exact .inr ⟨_, rfl, A g H _ Ext.refl R (by simp only [VR])⟩
  · exact A.elim⟩
def intsOf : List Val → Option (List Int)
  | [] => some []
  | .int i :: l => (intsOf l).map (i :: ·)
  | _ :: _ => none
def blsOf : List Val → Option (List Bool)
  | [] => some []
  | .bl i :: l => (blsOf l).map (i :: ·)
  | _ :: _ => none
theorem intsOf_ok {K : PySem.W.Frag} {g : Gh} {H : Hp} : ∀ {l : List Val} {ns : List Int} {xs : List V}, intsOf l = some ns → VRs K g H l xs → xs = ns.map V.int
  | [], ns, xs, e, r => by simp only [intsOf, Option.some.injEq] at e; subst e; simp only [VRs] at r; exact r
  | .int i :: l, ns, xs, e, r => by
    simp only [intsOf, Option.map_eq_some_iff] at e
    obtain ⟨ms, e, rfl⟩ := e
    simp only [VRs, VR] at r
    obtain ⟨x, xs', rfl, rfl, r⟩ := r
    rw [intsOf_ok e r]; rfl
theorem blsOf_ok {K : PySem.W.Frag} {g : Gh} {H : Hp} : ∀ {l : List Val} {ns : List Bool} {xs : List V}, blsOf l = some ns → VRs K g H l xs → xs = ns.map V.bl
  | [], ns, xs, e, r => by simp only [blsOf, Option.some.injEq] at e; subst e; simp only [VRs] at r; exact r
  | .bl i :: l, ns, xs, e, r => by
    simp only [blsOf, Option.map_eq_some_iff] at e
    obtain ⟨ms, e, rfl⟩ := e
    simp only [VRs, VR] at r
    obtain ⟨x, xs', rfl, rfl, r⟩ := r
    rw [blsOf_ok e r]; rfl
def vSum (v : Val) (h : Hv) : Res Val := match lstOf h v with
  | some l => match intsOf l with
    | some ns => .ok (.int ns.sum) h
    | none => .fail
  | none => .fail
theorem c1_sum (hc : X.calm = true) : C1 X (.builtin "sum") vSum := ⟨_, cr_sum hc, fun W g H h σ v x Q R r A => by
  unfold vSum at A
  split at A
  · rename_i l hl
    split at A
    · rename_i ns hn
      obtain ⟨a, xs, rfl, s, rs⟩ := lstOf_ok R r hl
      have e := intsOf_ok hn rs
      subst e
      exact ⟨a, ns, rfl, SqL.of s, A g H _ Ext.refl R (by simp only [VR])⟩
    · exact A.elim
  · exact A.elim⟩
def vAll (v : Val) (h : Hv) : Res Val := match lstOf h v with
  | some l => match blsOf l with
    | some ns => .ok (.bl (ns.all id)) h
    | none => .fail
  | none => .fail
def vAny (v : Val) (h : Hv) : Res Val := match lstOf h v with
  | some l => match blsOf l with
    | some ns => .ok (.bl (ns.any id)) h
    | none => .fail
  | none => .fail
theorem c1_all (hc : X.calm = true) : C1 X (.builtin "all") vAll := ⟨_, cr_all hc, fun W g H h σ v x Q R r A => by
  unfold vAll at A
  split at A
  · rename_i l hl
    split at A
    · rename_i ns hn
      obtain ⟨a, xs, rfl, s, rs⟩ := lstOf_ok R r hl
      have e := blsOf_ok hn rs
      subst e
      exact ⟨a, ns, rfl, SqL.of s, A g H _ Ext.refl R (by simp only [VR])⟩
    · exact A.elim
  · exact A.elim⟩
theorem c1_any (hc : X.calm = true) : C1 X (.builtin "any") vAny := ⟨_, cr_any hc, fun W g H h σ v x Q R r A => by
  unfold vAny at A
  split at A
  · rename_i l hl
    split at A
    · rename_i ns hn
      obtain ⟨a, xs, rfl, s, rs⟩ := lstOf_ok R r hl
      have e := blsOf_ok hn rs
      subst e
      exact ⟨a, ns, rfl, SqL.of s, A g H _ Ext.refl R (by simp only [VR])⟩
    · exact A.elim
  · exact A.elim⟩
def vTuple (v : Val) (h : Hv) : Res Val := match seqOf h v with
  | some l => .ok (.tup l) h
  | none => .fail
theorem c1_tuple : C1 X (.type "tuple") vTuple := ⟨_, call_tuple_of, fun W g H h σ v x Q R r A => by
  unfold vTuple at A
  split at A
  · rename_i l hl
    obtain ⟨a, xs, rfl, s, rs⟩ := seqOf_ok R r hl
    rcases s with s | s
    · refine ⟨a, xs, rfl, .inl ⟨s, fun q nq => ?_⟩⟩
      obtain ⟨E4, R4⟩ := R.grow (o := .tup xs) nq
      refine A g _ (.ref q) E4 R4 ?_
      simp only [VR]
      exact ⟨q, _, rfl, SqT.of upd_same, rs.ext R E4⟩
    · refine ⟨a, xs, rfl, .inr ⟨s, A g H _ Ext.refl R ?_⟩⟩
      simp only [VR]
      exact ⟨a, xs, rfl, s, rs⟩
  · exact A.elim⟩
def vList (v : Val) (h : Hv) : Res Val := match seqOf h v with
  | some l => .ok (.lst l) h
  | none => .fail
theorem c1_list : C1 X (.type "list") vList := ⟨_, call_list_of, fun W g H h σ v x Q R r A => by
  unfold vList at A
  split at A
  · rename_i l hl
    obtain ⟨a, xs, rfl, s, rs⟩ := seqOf_ok R r hl
    refine ⟨a, xs, rfl, s, fun q nq => ?_⟩
    obtain ⟨E4, R4⟩ := R.grow (o := .lst xs) nq
    refine A g _ (.ref q) E4 R4 ?_
    simp only [VR]
    exact ⟨q, _, rfl, R.fresh nq, upd_same, rs.ext R E4⟩
  · exact A.elim⟩
/-- .. that is written later on -/
def vListM (v : Val) (h : Hv) : Res Val := match seqOf h v with
  | some l => .ok (.ref h.length) (h ++ [.lst l])
  | none => .fail
theorem push_ok {W : WX} {σ : L2.St} {g : Gh} {H : Hp} {h : Hv} {Q : VK} {ob : Ob} {o : HO} (R : HR X.K g H h) (A : After X.K W (vr X.K) σ g H Q (.ok (.ref h.length) (h ++ [ob]))) {q : Addr} (nq : H q = none)
    (ok : ∀ E : Ext g H ⟨g.m ++ [q], g.r⟩ (upd H q o), OR X.K ⟨g.m ++ [q], g.r⟩ (upd H q o) q ob) : Q (.ref q) (upd H q o) := by
  have E : Ext g H ⟨g.m ++ [q], g.r⟩ (upd H q o) := ⟨⟨[q], rfl, fun b hb => by rw [List.mem_singleton.mp hb]; exact fre_none nq⟩, rfl, fun b u e _ hb => by rw [upd_ne (ne_of_none e nq)]; exact e, fun b u e nt => ⟨u, by rw [upd_ne (ne_of_none e nq)]; exact e, nt⟩⟩
  obtain ⟨_, R1⟩ := R.push (o := o) (ob := ob) nq (ok E)
  refine A _ _ (.ref q) E R1 ?_
  simp only [VR]
  refine ⟨q, rfl, ?_⟩
  show (g.m ++ [q])[h.length]? = some q
  rw [← R.len]
  simp
theorem c1_listM : C1 X (.type "list") vListM := ⟨_, call_list_of, fun W g H h σ v x Q R r A => by
  unfold vListM at A
  split at A
  · rename_i l hl
    obtain ⟨a, xs, rfl, s, rs⟩ := seqOf_ok R r hl
    exact ⟨a, xs, rfl, s, fun q nq => push_ok R A nq fun E => ⟨xs, upd_same, rs.ext R E⟩⟩
  · exact A.elim⟩
/-- dict(d): a copy -/
def vDict (v : Val) (h : Hv) : Res Val := match dicOf h v with
  | some l => .ok (.ref h.length) (h ++ [.dic l])
  | none => .fail
theorem c1_dict : C1 X (.type "dict") vDict := ⟨_, call_dictD, fun W g H h σ v x Q R r A => by
  unfold vDict at A
  split at A
  · rename_i l hl
    obtain ⟨i, a, ks, rfl, rfl, hm, hi, ha, d⟩ := dicOf_ok R r hl
    exact ⟨a, ks, rfl, .inl ha, fun q nq => push_ok R A nq fun E => ⟨ks, upd_same, d.1, d.2.ext R E⟩⟩
  · exact A.elim⟩

/-! ### methods -/
def isLst (h : Hv) (v : Val) : Bool := (lstOf h v).isSome
/-- x.append(e): the receiver stands first -/
def vAppend (x v : Val) (h : Hv) : Res Val := match x with
  | .ref i => match h[i]? with
    | some (.lst l) => if l.length < lineN then .ok .non (h.set i (.lst (l ++ [v]))) else .fail
    | _ => .fail
  | _ => .fail
def dMeth1 (ok : Hv → Val → Bool) (f : Val → Val → Hv → Res Val) (o e : Den) : Den := fun l h => (o l h).bind fun x h1 => if ok h1 x = true then (e l h1).bind fun v h2 => f x v h2 else .fail
theorem lst_ty {K : PySem.W.Frag} {g : Gh} {H : Hp} {h : Hv} {v : Val} {x : V} (R : HR K g H h) (r : VR K g H v x) (e : isLst h v = true) : tyV K "list" x H := by
  unfold isLst at e
  obtain ⟨l, hl⟩ := Option.isSome_iff_exists.mp e
  obtain ⟨a, xs, rfl, s, _⟩ := lstOf_ok R r hl
  exact .inl ⟨rfl, xs, SqL.of s⟩
def M1R (X : Cx) (T id : String) (ok : Hv → Val → Bool) (f : Val → Val → Hv → Res Val) : Prop := (∀ (g : Gh) (H : Hp) (h : Hv) (v : Val) (x : V), HR X.K g H h → VR X.K g H v x → ok h v = true → tyV X.K T x H) ∧
  ∃ r, MtR X id r ∧ ∀ (W : WX) (g : Gh) (H : Hp) (h : Hv) (σ : L2.St) (v u : Val) (x y : V) (Q : VK), HR X.K g H h → VR X.K g H v x → VR X.K g H u y → After X.K W (vr X.K) σ g H Q (f v u h) → r x [y] H Q
theorem ge_meth1 {T id : String} {name : Str} {ok : Hv → Val → Bool} {f : Val → Val → Hv → Res Val} {o e : Expr} {dx de : Den} {apos cpos : Pos} (hf : M1R X T id ok f) (pa : PlainAttrs T) (slot : Slot T name id) (hty : typeOf (.builtin id) = pure (.type "method_descriptor")) (ho : GE X W o dx) (he : GE X W e de)
    (hbase : attributeBase o name X.env (eval o X.env) = eval o X.env := by rfl)
    (hfew : ((backTo cpos (starEach [e] X.env)).all (fun x => !x.1) && (backToKw cpos (keywordEach [] X.env)).all (fun x => x.1.isSome)
      && decide (([e] : List Expr).length + ([] : List Keyword).length + (if ([] : List Keyword).isEmpty then 0 else 1) < 30)) = true := by rfl)
    (hline : (apos.endLine == cpos.line) = true := by rfl) (hs : starEach [e] X.env = (false, eval e X.env) :: starEach [] X.env := by rfl) (hplain : (backTo cpos (starEach [] X.env)).any (·.1) = false := by rfl) :
    GE X W (.Call (.Attribute o name apos) [e] [] cpos) (dMeth1 ok f dx de) := by
  obtain ⟨hty2, r, hc, hr⟩ := hf
  refine PE.imp (pe_bm pa slot hty hc ho (pa_cons he pa_nil hs) hbase hfew hline hs hplain) fun σ H Q ⟨g, l, h, S, R, A⟩ => ?_
  refine tG_of S R A fun v h1 g1 H1 x E S1 R1 r1 A1 => ?_
  split at A1
  · rename_i ok1
    refine ⟨hty2 g1 H1 h1 v x R1 r1 ok1, ?_⟩
    exact tG_of S1 R1 A1 fun u h2 g2 H2 y E2 S2 R2 r2 A2 => hr W g2 H2 h2 σ v u x y Q R2 (r1.ext R1 E2) r2 A2
  · exact A1.elim
theorem m1_append : M1R X "list" "list.append" isLst vAppend := ⟨fun g H h v x R r e => lst_ty R r e, _, mt_append, fun W g H h σ v u x y Q R rv ru A => by
  unfold vAppend at A
  split at A
  · rename_i i
    split at A
    · rename_i l hl
      split at A
      · rename_i hz
        simp only [VR] at rv
        obtain ⟨a, rfl, hm⟩ := rv
        obtain ⟨xs, e1, rs⟩ := ref_at R hl hm
        refine ⟨a, xs, y, rfl, rfl, e1, by rw [← rs.length]; exact line_lt hz, ?_⟩
        obtain ⟨E, R1⟩ := R.write (ob := .lst (l ++ [u])) (o' := .lst (xs ++ [y])) hm fun E => ⟨_, upd_same, (rs.ext R E).append (.one (ru.ext R E))⟩
        exact A g _ .non E R1 (by simp only [VR])
      · exact A.elim
    · exact A.elim
  · exact A.elim⟩
theorem ge_append {o e : Expr} {dx de : Den} {apos cpos : Pos} (ho : GE X W o dx) (he : GE X W e de) (hbase : attributeBase o "append" X.env (eval o X.env) = eval o X.env := by rfl)
    (hfew : ((backTo cpos (starEach [e] X.env)).all (fun x => !x.1) && (backToKw cpos (keywordEach [] X.env)).all (fun x => x.1.isSome)
      && decide (([e] : List Expr).length + ([] : List Keyword).length + (if ([] : List Keyword).isEmpty then 0 else 1) < 30)) = true := by rfl)
    (hline : (apos.endLine == cpos.line) = true := by rfl) (hs : starEach [e] X.env = (false, eval e X.env) :: starEach [] X.env := by rfl) (hplain : (backTo cpos (starEach [] X.env)).any (·.1) = false := by rfl) :
    GE X W (.Call (.Attribute o "append" apos) [e] [] cpos) (dMeth1 isLst vAppend dx de) := ge_meth1 m1_append PySem.F.plainAttrs_list PySem.F.slot_list_append PySem.F.type_list_append ho he hbase hfew hline hs hplain
/-- x.extend(e) -/
def vExtend (x v : Val) (h : Hv) : Res Val := match x with
  | .ref i => match h[i]?, seqOf h v with
    | some (.lst l), some k => if l.length + k.length ≤ lineN then .ok .non (h.set i (.lst (l ++ k))) else .fail
    | _, _ => .fail
  | _ => .fail
def rExtT (K : PySem.W.Frag) : V → List V → Hp → VK → Prop := fun x vs H Q => ∃ l b xs zs, x = .ref l ∧ vs = [.ref b] ∧ H l = some (.lst xs) ∧ SqT K H b zs ∧ xs.length + zs.length ≤ sizeLine ∧ Q .non (upd H l (.lst (xs ++ zs)))
theorem m1_extend_l : M1R X "list" "list.extend" isLst (fun x v h => if (lstOf h v).isSome then vExtend x v h else .fail) := ⟨fun g H h v x R r e => lst_ty R r e, _, mt_extend, fun W g H h σ v u x y Q R rv ru A => by
  dsimp only at A
  split at A
  · rename_i hs
    obtain ⟨k, hk⟩ := Option.isSome_iff_exists.mp hs
    have hk2 : seqOf h u = some k := by cases u <;> first | exact hk | (simp [lstOf] at hk)
    unfold vExtend at A
    split at A
    · rename_i i
      split at A
      · rename_i l k' hl hk'
        rw [hk2] at hk'
        cases hk'
        split at A
        · rename_i hz
          simp only [VR] at rv
          obtain ⟨a, rfl, hm⟩ := rv
          obtain ⟨xs, e1, rs⟩ := ref_at R hl hm
          obtain ⟨b, zs, rfl, s2, rz⟩ := lstOf_ok R ru hk
          refine ⟨a, b, xs, zs, rfl, rfl, e1, s2, by rw [← rs.length, ← rz.length]; exact line_ok hz, ?_⟩
          obtain ⟨E, R1⟩ := R.write (ob := .lst (l ++ k)) (o' := .lst (xs ++ zs)) hm fun E => ⟨_, upd_same, (rs.append rz).ext R E⟩
          exact A g _ .non E R1 (by simp only [VR])
        · exact A.elim
      · exact A.elim
    · exact A.elim
  · exact A.elim⟩
/-- x.pop() -/
def vPop (x : Val) (h : Hv) : Res Val := match x with
  | .ref i => match h[i]? with
    | some (.lst l) => match l.getLast? with
      | some v => .ok v (h.set i (.lst l.dropLast))
      | none => .fail
    | _ => .fail
  | _ => .fail
def dMeth0 (ok : Hv → Val → Bool) (f : Val → Hv → Res Val) (o : Den) : Den := fun l h => (o l h).bind fun x h1 => if ok h1 x = true then f x h1 else .fail
theorem ge_meth0 {T id : String} {name : Str} {ok : Hv → Val → Bool} {f : Val → Hv → Res Val} {o : Expr} {dx : Den} {apos cpos : Pos} {r : V → List V → Hp → VK → Prop} (pa : PlainAttrs T) (slot : Slot T name id) (hty : typeOf (.builtin id) = pure (.type "method_descriptor")) (hc : MtR X id r)
    (hty2 : ∀ (g : Gh) (H : Hp) (h : Hv) (v : Val) (x : V), HR X.K g H h → VR X.K g H v x → ok h v = true → tyV X.K T x H)
    (hr : ∀ (W : WX) (g : Gh) (H : Hp) (h : Hv) (σ : L2.St) (v : Val) (x : V) (Q : VK), HR X.K g H h → VR X.K g H v x → After X.K W (vr X.K) σ g H Q (f v h) → r x [] H Q) (ho : GE X W o dx)
    (hbase : attributeBase o name X.env (eval o X.env) = eval o X.env := by rfl) (hline : (apos.endLine == cpos.line) = true := by rfl) : GE X W (.Call (.Attribute o name apos) [] [] cpos) (dMeth0 ok f dx) := by
  refine PE.imp (pe_bm0 pa slot hty hc ho hbase hline) fun σ H Q ⟨g, l, h, S, R, A⟩ => ?_
  refine tG_of S R A fun v h1 g1 H1 x E S1 R1 r1 A1 => ?_
  split at A1
  · rename_i ok1
    exact ⟨hty2 g1 H1 h1 v x R1 r1 ok1, hr W g1 H1 h1 σ v x Q R1 r1 A1⟩
  · exact A1.elim
theorem VRs.dropLast {K : PySem.W.Frag} {g : Gh} {H : Hp} {l : List Val} {xs : List V} (r : VRs K g H l xs) : VRs K g H l.dropLast xs.dropLast := by
  rw [List.dropLast_eq_take, List.dropLast_eq_take, r.length]
  exact r.take _
theorem ge_pop {o : Expr} {dx : Den} {apos cpos : Pos} (ho : GE X W o dx) (hbase : attributeBase o "pop" X.env (eval o X.env) = eval o X.env := by rfl) (hline : (apos.endLine == cpos.line) = true := by rfl) : GE X W (.Call (.Attribute o "pop" apos) [] [] cpos) (dMeth0 isLst vPop dx) :=
  ge_meth0 PySem.F.plainAttrs_list PySem.F.slot_list_pop PySem.F.type_list_pop mt_pop (fun g H h v x R r e => lst_ty R r e) (fun W g H h σ v x Q R rv A => by
    unfold vPop at A
    split at A
    · rename_i i
      split at A
      · rename_i l hl
        split at A
        · rename_i w hw
          simp only [VR] at rv
          obtain ⟨a, rfl, hm⟩ := rv
          obtain ⟨xs, e1, rs⟩ := ref_at R hl hm
          rw [List.getLast?_eq_getElem?] at hw
          obtain ⟨y, hy, ry⟩ := rs.get hw
          refine ⟨a, xs, y, rfl, rfl, e1, by rw [← rs.length]; exact hy, ?_⟩
          obtain ⟨E, R1⟩ := R.write (ob := .lst l.dropLast) (o' := .lst xs.dropLast) hm fun E => ⟨_, upd_same, rs.dropLast.ext R E⟩
          exact A g _ y E R1 (ry.ext R E)
        · exact A.elim
      · exact A.elim
    · exact A.elim) ho hbase hline
/-- d.get(k), d.get(k, x) -/
def isDic (h : Hv) (v : Val) : Bool := (dicOf h v).isSome
def dGet1 (o e : Den) : Den := fun l h => (o l h).bind fun x h1 => if isDic h1 x = true then (e l h1).bind fun k h2 => (match dicOf h2 x, keyOf k with
  | some l, some _ => .ok ((dGet l k).getD .non) h2
  | _, _ => .fail) else .fail
def dGet2 (o e f : Den) : Den := fun l h => (o l h).bind fun x h1 => if isDic h1 x = true then (e l h1).bind fun k h2 => (f l h2).bind fun z h3 => (match dicOf h3 x, keyOf k with
  | some l, some _ => .ok ((dGet l k).getD z) h3
  | _, _ => .fail) else .fail
theorem dic_is {K : PySem.W.Frag} {g : Gh} {H : Hp} {h : Hv} {v : Val} {x : V} (R : HR K g H h) (r : VR K g H v x) (e : isDic h v = true) : ∃ a, x = .ref a ∧ IsD H a := by
  unfold isDic at e
  obtain ⟨l, hl⟩ := Option.isSome_iff_exists.mp e
  obtain ⟨i, a, ks, rfl, rfl, hm, hi, ha, d⟩ := dicOf_ok R r hl
  exact ⟨a, rfl, .inl ⟨ks, .inl ha⟩⟩
theorem dget_at {K : PySem.W.Frag} {g : Gh} {H : Hp} {h : Hv} {v k : Val} {x y : V} {l : List (Val × Val)} {kk : Key} (R : HR K g H h) (r : VR K g H v x) (rk : VR K g H k y) (hl : dicOf h v = some l) (hk : keyOf k = some kk) : ∃ a o, x = .ref a ∧ DGet H a y o ∧ ∀ z zx, VR K g H z zx → VR K g H ((dGet l k).getD z) (o.getD zx) := by
  obtain ⟨i, a, ks, rfl, rfl, hm, hi, ha, d⟩ := dicOf_ok R r hl
  obtain ⟨d1, d2⟩ := DR.get hk d
  refine ⟨a, valV ks kk, rfl, ?_, fun z zx rz => ?_⟩
  · rw [key_V rk hk]; exact DGet.k ha
  · cases e : dGet l k with
    | none => rw [d2 e]; exact rz
    | some w => obtain ⟨w', e1, r1⟩ := d1 w e; rw [e1]; exact r1
theorem ge_get1 {o e : Expr} {dx de : Den} {apos cpos : Pos} (hu : X.A.units + 1 < cLine) (ho : GE X W o dx) (he : GE X W e de) (m : M1 X o "get" apos e cpos := by exact ⟨rfl, rfl, rfl, rfl⟩) : GE X W (.Call (.Attribute o "get" apos) [e] [] cpos) (dGet1 dx de) := by
  refine PE.imp (pe_dget1 hu ho he m) fun σ H Q ⟨g, l, h, S, R, A⟩ => ?_
  refine tG_of S R A fun v h1 g1 H1 x E S1 R1 r1 A1 => ?_
  split at A1
  · rename_i ok1
    obtain ⟨a, rfl, hd⟩ := dic_is R1 r1 ok1
    refine ⟨a, rfl, hd, ?_⟩
    refine tG_of S1 R1 A1 fun u h2 g2 H2 y E2 S2 R2 r2 A2 => ?_
    split at A2
    · rename_i k kk hl hk
      obtain ⟨a', o, e1, dg, hz⟩ := dget_at R2 (r1.ext R1 E2) r2 hl hk
      cases e1
      exact ⟨o, dg, A2 g2 H2 _ Ext.refl R2 (hz .non .non (by simp only [VR]))⟩
    · exact A2.elim
  · exact A1.elim
theorem ge_get2 {o e f : Expr} {dx de df : Den} {apos cpos : Pos} (hu : X.A.units + 1 < cLine) (ho : GE X W o dx) (he : GE X W e de) (hf : GE X W f df) (m : M2 X o "get" apos e f cpos := by exact ⟨rfl, rfl, rfl, rfl⟩) : GE X W (.Call (.Attribute o "get" apos) [e, f] [] cpos) (dGet2 dx de df) := by
  refine PE.imp (pe_dget2 hu ho he hf m) fun σ H Q ⟨g, l, h, S, R, A⟩ => ?_
  refine tG_of S R A fun v h1 g1 H1 x E S1 R1 r1 A1 => ?_
  split at A1
  · rename_i ok1
    obtain ⟨a, rfl, hd⟩ := dic_is R1 r1 ok1
    refine ⟨a, rfl, hd, ?_⟩
    refine tG_of S1 R1 A1 fun u h2 g2 H2 y E2 S2 R2 r2 A2 => ?_
    refine tG_of S2 R2 A2 fun w h3 g3 H3 z E3 S3 R3 r3 A3 => ?_
    split at A3
    · rename_i k kk hl hk
      obtain ⟨a', o, e1, dg, hz⟩ := dget_at R3 ((r1.ext R1 E2).ext R2 E3) (r2.ext R2 E3) hl hk
      cases e1
      exact ⟨o, dg, A3 g3 H3 _ Ext.refl R3 (hz w z r3)⟩
    · exact A3.elim
  · exact A1.elim

/-! ### stores -/
/-- o[i] = v -/
def vSet (o i v : Val) (h : Hv) : Option Hv := match o with
  | .ref a => match h[a]? with
    | some (.dic l) => (match keyOf i with
      | some _ => if l.length < lineN then some (h.set a (.dic (dPut l i v))) else none
      | none => none)
    | some (.lst l) => (match i with
      | .int k => (match ixN l.length k with
        | some j => some (h.set a (.lst (l.set j v)))
        | none => none)
      | _ => none)
    | _ => none
  | _ => none
def rSetD : V → V → V → Hp → (Hp → Prop) → Prop := fun o i v H Q => ∃ a H', o = .ref a ∧ DPut H a i v H' ∧ Q H'
theorem set_dict (hu : X.A.units + 1 < cLine) : PSet X rSetD := by
  intro pins s σ H o i v ov iv u Q I ro ri rv h
  obtain ⟨a, H', rfl, d, q⟩ := h
  obtain rfl : ov = Value.ref a := ro
  exact d_setItem hu I d ri rv fun s' I' => ⟨H', I', q⟩
theorem PSet.or {t t' : TSet} (p : PSet X t) (p' : PSet X t') : PSet X fun o i v H Q => t o i v H Q ∨ t' o i v H Q := by
  intro pins s σ H o i v ov iv u Q I ro ri rv h
  rcases h with h | h
  · exact p pins s σ H o i v ov iv u Q I ro ri rv h
  · exact p' pins s σ H o i v ov iv u Q I ro ri rv h
theorem vSet_ok {g : Gh} {H : Hp} {h h' : Hv} {o i v : Val} {x y z : V} {Q : Hp → Prop} (R : HR X.K g H h) (ro : VR X.K g H o x) (ri : VR X.K g H i y) (rv : VR X.K g H v z) (e : vSet o i v h = some h') (q : ∀ H', Ext g H g H' → HR X.K g H' h' → Q H') : rSetL x y z H Q ∨ rSetD x y z H Q := by
  unfold vSet at e
  split at e
  · rename_i a
    simp only [VR] at ro
    obtain ⟨b, rfl, hm⟩ := ro
    split at e
    · rename_i l hl
      split at e
      · rename_i kk hk
        split at e
        · rename_i hz
          cases e
          obtain ⟨ks, e1, d⟩ := ref_at R hl hm
          obtain ⟨E, R1⟩ := R.write (ob := .dic (dPut l i v)) (o' := .dK (putK ks kk z)) hm fun E => ⟨_, upd_same, DR.put ⟨d.1, d.2.ext R E⟩ hk (rv.ext R E)⟩
          refine .inr ⟨b, _, rfl, ?_, q _ E R1⟩
          rw [key_V ri hk]
          exact DPut.k e1 (by rw [← d.length]; exact line_lt hz)
        · cases e
      · cases e
    · rename_i l hl
      split at e
      · rename_i k
        split at e
        · rename_i j hj
          cases e
          obtain ⟨xs, e1, rs⟩ := ref_at R hl hm
          obtain ⟨E, R1⟩ := R.write (ob := .lst (l.set j v)) (o' := .lst (xs.set j z)) hm fun E => ⟨_, upd_same, VRs.set j (rs.ext R E) (rv.ext R E)⟩
          simp only [VR] at ri
          subst ri
          exact .inl ⟨b, xs, k, j, rfl, rfl, e1, by rw [← rs.length]; exact hj, q _ E R1⟩
        · cases e
      · cases e
    · cases e
  · cases e
def Res.toT {α : Type} (r : Res α) (l : Loc) (k : α → Hv → TRes) : TRes := match r with
  | .ok v h => k v h
  | .exc e h => .exc e l h
  | .fail => .fail
@[simp] theorem Res.toT_ok {α : Type} (a : α) (h : Hv) (l : Loc) (k : α → Hv → TRes) : (Res.ok a h).toT l k = k a h := rfl
def gSub (o i : Den) : Tg := fun v l h => (o l h).toT l fun x h1 => (i l h1).toT l fun y h2 => match vSet x y v h2 with
  | some h3 => .ok l h3
  | none => .fail
theorem tG_T {α β : Type} {K : PySem.W.Frag} {W : WX} {σ : L2.St} {g : Gh} {H : Hp} {l : Loc} {h : Hv} {rel : Gh → Hp → α → β → Prop} {d : DenG α} {k : α → Hv → TRes} {Q : L2.St → Hp → Prop} {R : β → Hp → Prop} (S : SR K g H l σ) (hr : HR K g H h) (A : AfterT K W g H Q ((d l h).toT l k))
    (hk : ∀ v h1 g1 H1 x, Ext g H g1 H1 → SR K g1 H1 l σ → HR K g1 H1 h1 → rel g1 H1 v x → AfterT K W g1 H1 Q (k v h1) → R x H1) : tG K W rel d σ H R := by
  refine ⟨g, l, h, S, hr, ?_⟩
  cases e : d l h with
  | ok v h1 =>
    rw [e] at A
    intro g' H' x E R' r
    exact hk v h1 g' H' x E (S.ext hr E) R' r (AfterT.ext E A)
  | exc x h1 =>
    rw [e] at A
    intro g' H' c d' E R' r
    exact A g' H' σ c d' E R' (S.ext hr E) r
  | fail =>
    rw [e] at A
    exact A
theorem gg_sub {o i : Expr} {dx di : Den} {pos : Pos} (hu : X.A.units + 1 < cLine) (ho : GE X W o dx) (hi : GE X W i di)
    (ha : ∀ v, assign (.Subscript o i pos) X.env v = (do
      let ov ← holding [v] (eval o X.env)
      let iv ← holding [v, ov] (eval i X.env)
      standAt pos
      holding [v, ov, iv] (setItem ov iv v)
      release [v, ov, iv] []) := by intro _; rfl) : GG X W (.Subscript o i pos) (gSub dx di) := by
  refine PG.imp (pg_sub ho hi (PSet.or set_list (set_dict hu)) ha) fun y σ H Q ⟨g, l, h, v, S, R, r, A⟩ => ?_
  refine tG_T S R A fun x h1 g1 H1 x' E S1 R1 r1 A1 => ?_
  refine tG_T S1 R1 A1 fun z h2 g2 H2 z' E2 S2 R2 r2 A2 => ?_
  split at A2
  · rename_i h3 e
    exact vSet_ok R2 (r1.ext R1 E2) r2 ((r.ext R E).ext R1 E2) e fun H' E3 R3 => A2 g2 H' σ E3 R3 (S2.ext R2 E3)
  · exact A2.elim
/-- name op= e -/
def sAug (i : Nat) (f : Val → Val → Hv → Res Val) (d : Den) : Stm := fun l h => match l[i]? with
  | some (some x) => (d l h).to l fun y h1 => (f x y h1).to l fun z h2 => .nx (l.set i (some z)) h2
  | _ => .fail
theorem gs_aug (i : Nat) {f : Val → Val → Hv → Res Val} {x : Str} {e : Expr} {d : Den} {op : Operator} {pos' pos : Pos} (ho : OpG X (inplaceOp op) f) (he : GE X W e d) (hN : X.N.Nodup) (hi : X.N[i]? = some x := by rfl) (hx : L2.Loc X.env.scope x := by first | exact Or.inl rfl | exact Or.inr rfl)
    (hf : X.fn x = true ∨ X.env.scope.names.lookup x = some .local := by first | exact .inl rfl | exact .inr rfl) : GS X W (.AugAssign (.Name x pos') op e pos) (sAug i f d) := by
  obtain ⟨r, ho, hr⟩ := ho
  refine PS.imp (ps_aug hN hi hx he ho hf) fun D σ H ⟨g, l, h, S, R, A⟩ => ?_
  unfold sAug at A
  split at A
  · rename_i v ev
    obtain ⟨x, e1, rx⟩ := S.at_ i v ev
    refine ⟨x, e1, ?_⟩
    refine tG_to S R A fun y h1 g1 H1 y' E S1 R1 r1 A1 => ?_
    refine hr W g1 H1 h1 σ v y x y' _ R1 (rx.ext R E) r1 ?_
    cases ef : f v y h1 with
    | ok z h2 =>
      rw [ef] at A1
      exact fun g' H' z' E' R' rz => A1 g' H' _ E' R' ((S1.ext R1 E').set i rz)
    | exc x2 h2 =>
      rw [ef] at A1
      exact fun g' H' c d' E' R' re => A1 g' H' σ c d' E' R' (S1.ext R1 E') re
    | fail => rw [ef] at A1; exact A1
  · exact A.elim
def vIAdd (v u : Val) (h : Hv) : Res Val := match v, u with
  | .int i, .int j => .ok (.int (i + j)) h
  | .str a, .str b => if a.length + b.length ≤ lineN then .ok (.str (a ++ b)) h else .fail
  | _, _ => .fail
theorem og_iadd : OpG X (inplaceOp .Add) vIAdd := by
  refine ⟨_, iop_add.or iop_add_str, fun W g H h σ v u x y Q R rv ru A => ?_⟩
  unfold vIAdd at A
  split at A
  · simp only [VR] at rv ru
    subst rv ru
    exact .inl ⟨_, _, rfl, rfl, A g H _ Ext.refl R (by simp only [VR])⟩
  · split at A
    · rename_i hl
      simp only [VR] at rv ru
      subst rv ru
      exact .inr ⟨_, _, rfl, rfl, by rw [sOf_len, sOf_len]; exact line_ok hl, A g H _ Ext.refl R (by simp only [VR]; rw [sOf_append])⟩
    · exact A.elim
  · exact A.elim
theorem og_isub : OpG X (inplaceOp .Sub) vSub := og_int0 iop_sub fun W g H h σ v u Q R A => by
  unfold vSub at A
  split at A
  · exact ⟨_, _, rfl, rfl, A g H _ Ext.refl R (by simp only [VR])⟩
  · exact A.elim
end
end GH
set_option Elab.async false
set_option linter.all false
set_option maxRecDepth 100000
set_option maxHeartbeats 1000000
set_option autoImplicit false
/-! sorted of data, the first of them an empty tuple too; is of bools; dict displays; what stands at the top. -/
namespace PySem.W
open PySem PySem.Calls PySem.SeqAt PyProof.Rows
section
variable {prog : Program} {w : World} {A : Around} {E : Value → Shared → Prop} {s : Shared}
theorem gh_call_tuple_lt {Q : Value → Shared → Prop} {l b : Addr} {items items2 : Array Value} {e r : Nat → Bool} (hl : s.heap.IsTuple l items) (hb : s.heap.IsTuple b items2)
    (he : ∀ j (h1 : j < items.size) (h2 : j < items2.size), EqAt A.in1 s items[j] items2[j] (e j)) (hr : ∀ j (h1 : j < items.size) (h2 : j < items2.size), e j = false → RcLt A.in1 s items[j] items2[j] (r j))
    (h : Q (.bool (firstLt e r (decide (items.size < items2.size)) (List.range (min items.size items2.size)))) s) : wpAny (model prog w) A (call (.builtin "tuple.__lt__") [.ref l, .ref b]) Q E s := by
  obtain ⟨⟨cls, dd, data, sl⟩, ho, hc, n, hd⟩ := id hl
  obtain ⟨⟨cls2, dd2, data2, sl2⟩, ho2, hc2, n2, hd2⟩ := id hb
  simp only at hc hd hc2 hd2
  subst hc hd hc2 hd2
  exact call_meets F.slot_tuple_lt ⟨_, ho, rfl⟩ F.entry_tuple_lt (F.args_tuple_lt_2 _ _) (tuple_ltAt l b items items2 n n2 dd dd2 sl sl2 e r) ⟨ho, ho2, he, hr, h⟩
theorem gh_oneLt_tup {xs ys : List PyData} {a b : Value} {as bs : List Addr} {Q : Bool → Shared → Prop} (ra : Reads s.heap a (.tuple xs) as) (rb : Reads s.heap b (.tuple ys) bs) (hal : alikeAll xs ys = true)
    (hu : A.units + min (PyData.tuple xs).depth (PyData.tuple ys).depth < cLine) (hq : Q (dataLt (.tuple xs) (.tuple ys)) s) : wpAny (model prog w) A (oneLt' true a b) Q E s := by
  cases ra with
  | @tuple l o vs n _ as₁ h1 h2 h3 h4 =>
    cases rb with
    | @tuple l' o' vs' n' _ bs₁ k1 k2 k3 k4 =>
      have n1 : vs.size = xs.length := by simpa using ReadsAll.length _ _ _ h4
      have n2 : vs'.size = ys.length := by simpa using ReadsAll.length _ _ _ k4
      rw [dataLt_tuple, ← firstLt_toks xs ys hal, ← n1, ← n2] at hq
      rw [oneLt'_eq]
      simp only [if_true]
      refine wpAny_bind (wpAny_cRoomFor (room_here hu) ?_)
      refine wpAny_bind (wpAny_callSpecialIfBound?_slot (T := "tuple") ⟨_, h1, h2⟩ F.slot_tuple_lt (gh_call_tuple_lt (e := pairEq xs ys) (r := fun j => dataLt (xs.getD j .none) (ys.getD j .none)) ⟨_, h1, h2, _, h3⟩ ⟨_, k1, k2, _, k3⟩ (fun j j1 j2 => ?_) (fun j j1 j2 hj => ?_) ?_))
      · have := eqAt_alikeAll xs ys A.in1 s vs.toList vs'.toList _ _ h4 k4 hal (room_in hu) j (by simpa using j1) (by simpa using j2)
        simpa using this
      · have := rcLt_alikeAll xs ys A.in1 s vs.toList vs'.toList _ _ h4 k4 hal (room_in hu) j (by simpa using j1) (by simpa using j2) hj
        simpa using this
      · exact wpAny_truthy_bool hq
theorem gh_kind {M : Model} {vs : List Value} {Q : SortKind → Shared → Prop} {a : Addr} {o : Obj} {n : Nat} {rest : List Value} (ev : vs = .ref a :: rest) (ho : s.heap.get? a = some o) (hc : o.cls = .type "tuple") (hd : o.data = .seq #[] n)
    (hT : ∀ v ∈ vs, ∃ b o xs n, v = .ref b ∧ s.heap.get? b = some o ∧ o.cls = .type "tuple" ∧ o.data = .seq xs n) (hL : ∀ v ∈ vs, Looks M s.heap (typeOf v) (.type "tuple")) (h : Q oneType' s) :
    wpAny M A (keyKind' vs.toArray) Q E s := by
  rw [keyKind'_eq, List.mapM_toArray, map_eq_pure_bind]
  have first : ∀ (v : Value) (b : Addr) (o : Obj) (xs : Array Value) (n : Nat) (Q' : Option Value → Shared → Prop), v = .ref b → s.heap.get? b = some o → o.cls = .type "tuple" → o.data = .seq xs n → Q' xs[0]? s → wpAny M A (firstOfTuple' v) Q' E s := by
    intro v b o xs n Q' e1 e2 e3 e4 q
    subst e1
    rw [kas_first_eq]
    have : Looks M s.heap (typeOf (.ref b)) (.type "tuple") := e3 ▸ (Looks.ld e2).andThen .now
    refine wpAny_bind (this.here ?_)
    rw [if_neg (by simp)]
    exact wpAny_bind (listItems_at e2 e4 (wpAny_pure q))
  have all : ∀ (l : List Value) (Q' : List (Option Value) → Shared → Prop), (∀ v ∈ l, ∃ b o xs n, v = .ref b ∧ s.heap.get? b = some o ∧ o.cls = .type "tuple" ∧ o.data = .seq xs n) → (∀ fs : List (Option Value), fs.length = l.length → Q' fs s) → wpAny M A (l.mapM firstOfTuple') Q' E s := by
    intro l
    induction l with
    | nil => intro Q' _ q; rw [List.mapM_nil]; exact wpAny_pure (q [] rfl)
    | cons v l ih =>
      intro Q' hv q
      obtain ⟨b, o, xs, n, e1, e2, e3, e4⟩ := hv v (List.mem_cons_self ..)
      rw [List.mapM_cons]
      exact wpAny_bind (first v b o xs n _ e1 e2 e3 e4 (wpAny_bind (ih (fun bs s' => wpAny M A (pure (xs[0]? :: bs)) Q' E s') (fun v hv' => hv v (List.mem_cons_of_mem _ hv')) fun fs hl => wpAny_pure (q _ (by simp [hl])))))
  have go : ∀ fs : List (Option Value), fs.length = rest.length → wpAny M A (do
      if ((none :: fs : List (Option Value)).toArray.all (·.isSome)) = true then
        rule "list.sort.keys-are-tuples"
        return tuples' ((← oneTypeOnly' (((none :: fs : List (Option Value)).toArray.filterMap id))).any (· != .type "tuple"))
      if (((none :: fs : List (Option Value)).toArray)[0]?.bind id).isSome = true then return general'
      return if (← oneTypeOnly' vs.toArray).isSome = true then oneType' else general') Q E s := by
    intro fs hl
    rw [if_neg (by simp), if_neg (by simp)]
    rw [oneTypeOnly'_eq, List.mapM_toArray, map_eq_pure_bind]
    refine wpAny_bind (wpAny_bind (wpAny_bind (kas_mapM (r := Value.type "tuple") _ (fun v hv Q' hq => (hL v hv).here hq) (wpAny_pure ?_))))
    have hall : ((List.map (fun _ => Value.type "tuple") vs).toArray.all fun x => x == Value.type "tuple") = true := by
      simp only [List.all_toArray, List.all_map, List.all_eq_true]
      intro _ _
      exact beq_self_eq_true _
    have h0 : (List.map (fun _ => Value.type "tuple") vs).toArray[0]? = some (Value.type "tuple") := by rw [ev]; simp
    rw [h0]
    simp only [hall, if_true]
    exact wpAny_pure (wpAny_pure h)
  subst ev
  rw [List.mapM_cons]
  refine wpAny_bind (wpAny_bind (wpAny_bind (first _ a o #[] n _ rfl ho hc hd (wpAny_bind (all rest _ (fun v hv => hT v (List.mem_cons_of_mem _ hv)) fun fs hl => wpAny_pure ?_)))))
  exact wpAny_pure (go fs hl)
theorem GhSortsAt {vs : List Value} {ds : List PyData} (e : EachIs (fun v d => ∃ as, Reads s.heap v d as) vs ds) (hal : AllAlike ds) (hk : Sortable ds ∨ ∃ r, ds = .tuple [] :: r) (hu : ∀ d, d ∈ ds → A.units + d.depth < cLine) : SortsAt prog w A s (dataKind s.heap ds) vs := by
  rcases hk with hk | ⟨r, rfl⟩
  · exact SortsAt.data e hal hk hu
  have room : ∀ {d d' : PyData}, d ∈ PyData.tuple [] :: r → A.units + min d.depth d'.depth < cLine := fun {d d'} hd => Nat.lt_of_le_of_lt (Nat.add_le_add_left (Nat.min_le_left _ _) _) (hu d hd)
  have tup : ∀ d, d ∈ PyData.tuple [] :: r → ∃ xs, d = .tuple xs := by
    intro d hd
    have := hal d hd (.tuple []) (List.mem_cons_self ..)
    cases d with
    | tuple xs => exact ⟨xs, rfl⟩
    | _ => simp [alike] at this
  refine ⟨fun v hv => ?_, oneType', ?_, fun h2 E Q hq => ?_⟩
  · obtain ⟨d, hd, as, r⟩ := e.left v hv
    exact ⟨_, dataKind_some hal hd r⟩
  · intro E x y a b Q ha hb hq
    obtain ⟨d, as, hd, ra, rfl⟩ := dataKind_inv ha
    obtain ⟨d', as', hd', rb, rfl⟩ := dataKind_inv hb
    rw [keyLt'_oneType]
    have hdd := hal d hd d' hd'
    have hroom := room (d' := d') hd
    obtain ⟨xs, rfl⟩ := tup d hd
    obtain ⟨ys, rfl⟩ := tup d' hd'
    exact gh_oneLt_tup ra rb (by simpa [alike] using hdd) hroom hq
  · have shape : ∀ v d, d ∈ PyData.tuple [] :: r → (∃ as, Reads s.heap v d as) → ∃ b o xs n ds', v = .ref b ∧ s.heap.get? b = some o ∧ o.cls = .type "tuple" ∧ o.data = .seq xs n ∧ d = .tuple ds' ∧ xs.size = ds'.length := by
      intro v d hd ⟨as, ra⟩
      obtain ⟨ys, rfl⟩ := tup d hd
      cases ra with
      | @tuple l o vs n _ as₁ h1 h2 h3 h4 => exact ⟨l, o, vs, n, ys, rfl, h1, h2, h3, rfl, by simpa using ReadsAll.length _ _ _ h4⟩
    have hT : ∀ v ∈ vs, ∃ b o xs n, v = .ref b ∧ s.heap.get? b = some o ∧ o.cls = .type "tuple" ∧ o.data = .seq xs n := by
      intro v hv
      obtain ⟨d, hd, as, ra⟩ := e.left v hv
      obtain ⟨b, o, xs, n, _, q1, q2, q3, q4, _⟩ := shape v d hd ⟨as, ra⟩
      exact ⟨b, o, xs, n, q1, q2, q3, q4⟩
    have hL : ∀ v ∈ vs, Looks (model prog w) s.heap (typeOf v) (.type "tuple") := by
      intro v hv
      obtain ⟨b, o, xs, n, q1, q2, q3, q4⟩ := hT v hv
      subst q1
      show Looks _ _ (typeOf (Value.ref _)) _
      exact q3 ▸ (Looks.ld q2).andThen .now
    cases e with
    | @cons v0 _ _ _ ra t =>
      obtain ⟨b, o, xs, n, ds', q1, q2, q3, q4, q5, q6⟩ := shape v0 _ (List.mem_cons_self ..) ra
      cases q5
      have : xs = #[] := Array.eq_empty_of_size_eq_zero q6
      subst this
      subst q1
      exact gh_kind rfl q2 q3 q4 hT hL hq
theorem gh_sorted_data {β : Type} {vs : List Value} {bs : List β} {enc : β → PyData} {R : Value → β → Prop} {l : Addr} {Q : Value → Shared → Prop} (hl : s.heap.IsList l vs.toArray) (e : EachIs R vs bs) (er : EachIs (fun v b => ∃ as, Reads s.heap v (enc b) as) vs bs) (hal : AllAlike (bs.map enc)) (hk : Sortable (bs.map enc) ∨ ∃ r, bs.map enc = .tuple [] :: r) (hL : bs.length ≤ sizeLine)
    (hu : ∀ b, b ∈ bs → A.units + 2 + (enc b).depth < cLine) (h : ∀ out, out.length = bs.length → EachIs R out (bs.mergeSort (dataLe false enc)) → Q (.ref (s.heap.objs.size + 1)) { s with heap := sortedAll s.heap vs (List.toArray out) }) :
    wpAny (model prog w) A (call (.builtin "sorted") [.ref l]) Q E s := by
  have er' : EachIs (fun v b => ∃ as, Reads (sortingHeap (copyHeap s.heap vs) (s.heap.objs.size + 1) vs) v (enc b) as) vs bs := er.mono fun _ _ ⟨as, r⟩ => ⟨as, PyProof.Rows.Reads.keeps (fun _ _ => sorting_copy_old) r⟩
  exact sorted_vals hl (GhSortsAt (s := { s with heap := sortingHeap (copyHeap s.heap vs) (s.heap.objs.size + 1) vs }) (each_map (R := fun v d => ∃ as, Reads (sortingHeap (copyHeap s.heap vs) (s.heap.objs.size + 1) vs) v d as) enc er') hal hk (bound_map hu)) (by rw [e.length]; exact hL)
    (h _ (by rw [sortVals_length false rfl]; exact e.length) (sortVals_data false e er' hal))
end
end PySem.W
set_option Elab.async false
set_option linter.all false
set_option maxRecDepth 100000
set_option maxHeartbeats 1000000
set_option autoImplicit false
namespace GH
open PySem PySem.Spec PyProof.Rows L2
variable [TheWorld]
section
variable {K : PySem.W.Frag}
theorem OR.own {g g' : Gh} {H : Hp} {t : List Addr} (hm : g'.m = g.m ++ t) (ho : ∀ a, ¬ g.own a → ¬ g'.own a) {a : Addr} {o : Ob} (q : OR K g H a o) : OR K g' H a o := by
  cases o with
  | lst l => obtain ⟨xs, e, r⟩ := q; exact ⟨xs, e, r.own hm ho⟩
  | dic l => obtain ⟨xs, e, r⟩ := q; exact ⟨xs, e, r.1, r.2.own hm ho⟩
  | ins c f => obtain ⟨dx, gs, e, r⟩ := q; exact ⟨dx, gs, e, r.1, r.2.own hm ho⟩
  | dn l => obtain ⟨xs, ys, e, p, r1, r2⟩ := q; exact ⟨xs, ys, e, p, r1.own hm ho, r2.own hm ho⟩
  | tbl t => exact ⟨q.1, q.2.stay (fun ps e => e) (fun c o e nt hn => ⟨e, ho _ hn⟩)⟩
theorem HR.aside {g : Gh} {H : Hp} {h : Hv} {D : Addr} {o : HO} (R1 : HR K g H h) (nD : H D = none) (mo : MutX D o) : ExtS g H ⟨g.m, D :: g.r⟩ (upd H D o) ∧ HR K ⟨g.m, D :: g.r⟩ (upd H D o) h := by
  have ES : ExtS g H ⟨g.m, D :: g.r⟩ (upd H D o) := ⟨⟨[], by simp, by simp⟩, ⟨[D], rfl, fun b hb => by rw [List.mem_singleton.mp hb]; exact fre_none nD⟩, fun b o e _ hb => by rw [upd_ne (ne_of_none e nD)]; exact e⟩
  refine ⟨ES, R1.len, R1.nd, fun a ha z => ?_, fun a ha => ?_, fun i o a e1 e2 => ?_⟩
  · rcases List.mem_cons.mp z with z | z
    · subst z; exact R1.fresh nD (.inl ha)
    · exact R1.dis a ha z
  · rcases List.mem_cons.mp ha with z | z
    · subst z; exact ⟨_, upd_same, mo⟩
    · obtain ⟨ob, e, mo⟩ := R1.al a z
      exact ⟨ob, by rw [upd_ne (ne_of_none e nD)]; exact e, mo⟩
  · have q := R1.obj i o a e1 e2
    cases o with
    | lst l => obtain ⟨xs, e, r⟩ := q; exact ⟨xs, by rw [upd_ne (ne_of_none e nD)]; exact e, r.extS R1 ES⟩
    | dic l => obtain ⟨xs, e, r⟩ := q; exact ⟨xs, by rw [upd_ne (ne_of_none e nD)]; exact e, r.1, r.2.extS R1 ES⟩
    | ins c f => obtain ⟨dx, gs, e, r⟩ := q; exact ⟨dx, gs, by rw [upd_ne (ne_of_none e nD)]; exact e, r.1, r.2.extS R1 ES⟩
    | dn l => obtain ⟨xs, ys, e, p, r1, r2⟩ := q; exact ⟨xs, ys, by rw [upd_ne (ne_of_none e nD)]; exact e, p, r1.extS R1 ES, r2.extS R1 ES⟩
    | tbl t => exact ⟨q.1, q.2.stay (fun ps e => by rw [upd_ne (ne_of_none e nD)]; exact e) (fun c o e nt hn => ⟨by rw [upd_ne (ne_of_none e nD)]; exact e, ES.nown hn e nt⟩)⟩
theorem promote {W : WX} {σ : L2.St} {g1 g2 : Gh} {H1 H : Hp} {h h1 : Hv} {Q : VK} {D : Addr} {o0 o1 : HO} {ob : Ob} (R1 : HR K g1 H1 h1) (nD : H1 D = none) (E : Ext ⟨g1.m, D :: g1.r⟩ (upd H1 D o0) g2 H) (R : HR K g2 H h) (m1 : MutX D o1)
    (hob : ∀ {g3 : Gh} {t : List Addr}, g3.m = g2.m ++ t → (∀ a, ¬ g2.own a → ¬ g3.own a) → OR K g3 (upd H D o1) D ob) (A : After K W (vr K) σ g1 H1 Q (.ok (.ref h.length) (h ++ [ob]))) (n0 : ∀ ps, o0 ≠ .tbl ps := by intro ps z; cases z) : Q (.ref D) (upd H D o1) := by
  have hD : D ∈ g2.r := by rw [E.r]; exact List.mem_cons_self ..
  have er : g2.r = D :: g1.r := E.r
  have hr : ∀ b ∈ g1.r, b ∈ g2.r := fun b hb => by rw [er]; exact List.mem_cons_of_mem _ hb
  have nm : D ∉ g2.m := fun z => R.dis D z hD
  have nr : D ∉ g1.r := fun z => by obtain ⟨o, e⟩ := R1.own_there (.inr z); rw [nD] at e; cases e
  obtain ⟨ods, e0, m0⟩ := R.al D hD
  have R := R.reset (zs := o1) hD e0 m0 m1
  obtain ⟨t, em, n⟩ := E.m
  have em : g2.m = g1.m ++ t := em
  have E' : Ext g1 H1 ⟨g2.m ++ [D], g1.r⟩ (upd H D o1) := ⟨⟨t ++ [D], by show g2.m ++ [D] = _; rw [em, List.append_assoc], fun b hb => by
    rcases List.mem_append.mp hb with hb | hb
    · have q := n b hb
      have hne : b ≠ D := by
        rintro rfl
        obtain ⟨ps, z⟩ := q _ upd_same
        exact n0 ps z
      intro o z
      exact q o (by rw [upd_ne hne]; exact z)
    · rw [List.mem_singleton.mp hb]; exact fre_none nD⟩, rfl, fun b o e nt hb => by
      have hne := ne_of_none e nD
      rw [upd_ne hne]
      exact E.keepN b o (by rw [upd_ne hne]; exact e) nt hb, fun b o e nt => by
      have hne := ne_of_none e nD
      rw [upd_ne hne]
      exact E.there b o (by rw [upd_ne hne]; exact e) nt⟩
  have hm : (Gh.mk (g2.m ++ [D]) g1.r).m = g2.m ++ [D] := rfl
  have ho : ∀ a, ¬ g2.own a → ¬ (Gh.mk (g2.m ++ [D]) g1.r).own a := fun a ha z => by
    rcases z with z | z
    · rcases List.mem_append.mp z with z | z
      · exact ha (.inl z)
      · exact ha (.inr (by rw [List.mem_singleton.mp z]; exact hD))
    · exact ha (.inr (hr a z))
  refine A ⟨g2.m ++ [D], g1.r⟩ (upd H D o1) (.ref D) E' ⟨by simp [R.len], ?_, fun a ha => ?_, fun a ha => R.al a (hr a ha), fun i o a e1 e2 => ?_⟩ ?_
  · show (g2.m ++ [D]).Nodup
    refine List.nodup_append.mpr ⟨R.nd, by simp, fun a ha b hb => ?_⟩
    rw [List.mem_singleton.mp hb]
    rintro rfl
    exact nm ha
  · have ha : a ∈ g2.m ++ [D] := ha
    rcases List.mem_append.mp ha with ha | ha
    · exact fun z => R.dis a ha (hr a z)
    · rw [List.mem_singleton.mp ha]; exact nr
  · have e2 : (g2.m ++ [D])[i]? = some a := e2
    by_cases hi : i < h.length
    · rw [List.getElem?_append_left hi] at e1
      rw [List.getElem?_append_left (by rw [R.len]; exact hi)] at e2
      exact (R.obj i o a e1 e2).own hm ho
    · have hi' : i = h.length := by
        have := (List.getElem?_eq_some_iff.mp e1).1
        simp at this
        omega
      subst hi'
      rw [List.getElem?_append_right (Nat.le_refl _)] at e1
      rw [List.getElem?_append_right (by rw [R.len]; exact Nat.le_refl _)] at e2
      simp at e1
      rw [R.len] at e2
      simp at e2
      subst e1 e2
      exact hob hm ho
  · simp only [VR]
    refine ⟨D, rfl, ?_⟩
    show (g2.m ++ [D])[h.length]? = some D
    rw [← R.len]
    simp

/-! ### dict displays -/
def dPairs : List (Den × Den) → Loc → Hv → Res (List (Val × Val))
  | [], _, h => .ok [] h
  | (a, b) :: r, l, h => match a l h with
    | .ok k h1 => (match b l h1 with
      | .ok v h2 => (match dPairs r l h2 with
        | .ok ps h3 => .ok ((k, v) :: ps) h3
        | _ => .fail)
      | _ => .fail)
    | _ => .fail
def dMk (ps : List (Val × Val)) : List (Val × Val) := ps.foldl (fun acc p => dPut acc p.1 p.2) []
def dDisp (ds : List (Den × Den)) : Den := fun l h => match dPairs ds l h with
  | .ok ps h1 => if (ps.all fun p => (keyOf p.1).isSome) = true ∧ ps.length ≤ 15 then .ok (.ref h1.length) (h1 ++ [.dic (dMk ps)]) else .fail
  | _ => .fail
abbrev tPP (K : PySem.W.Frag) (ds : List (Den × Den)) : List (TE × TE) := ds.map fun p => (tG K W0 (vr K) p.1, tG K W0 (vr K) p.2)
theorem pairs_of {l : Loc} {σ : L2.St} : ∀ {ds : List (Den × Den)} {g : Gh} {H : Hp} {h h' : Hv} {ps : List (Val × Val)} {Rq : List (V × V) → Hp → Prop}, SR K g H l σ → HR K g H h → dPairs ds l h = .ok ps h' →
    (∀ g' H' xs, Ext g H g' H' → HR K g' H' h' → VRs K g' H' (ps.map (·.1)) (xs.map (·.1)) → VRs K g' H' (ps.map (·.2)) (xs.map (·.2)) → Rq xs H') → tPairs (tPP K ds) σ H Rq
  | [], g, H, h, h', ps, Rq, S, R, e, c => by
    simp only [dPairs, Res.ok.injEq] at e
    obtain ⟨rfl, rfl⟩ := e
    exact c g H [] Ext.refl R VRs.nil VRs.nil
  | (a, b) :: r, g, H, h, h', ps, Rq, S, R, e, c => by
    simp only [dPairs] at e
    split at e
    · rename_i k h1 ea
      split at e
      · rename_i v h2 eb
        split at e
        · rename_i ps' h3 er
          simp only [Res.ok.injEq] at e
          obtain ⟨rfl, rfl⟩ := e
          refine ⟨g, l, h, S, R, ?_⟩
          dsimp only
          rw [ea]
          intro g1 H1 x E1 R1 rk
          have S1 := S.ext R E1
          refine ⟨g1, l, h1, S1, R1, ?_⟩
          show After K W0 (vr K) σ g1 H1 _ (b l h1)
          rw [eb]
          intro g2 H2 y E2 R2 rv
          refine pairs_of (S1.ext R1 E2) R2 er fun g3 H3 xs E3 R3 r1 r2 => ?_
          refine c g3 H3 ((x, y) :: xs) ((E1.trans E2).trans E3) R3 ?_ ?_
          · exact VRs.cons ((VR.ext R1 E2 rk).ext R2 E3) r1
          · exact VRs.cons (VR.ext R2 E3 rv) r2
        · cases e
      · cases e
    · cases e
def GPs (X : Cx) (pos : Pos) (keys : List (Option Expr)) (values : List Expr) (ds : List (Den × Den)) : Prop := PPs X pos keys values (tPP X.K ds)
section
variable {X : Cx} {W : WX}
theorem gps_nil {pos : Pos} : GPs X pos [] [] [] := pps_nil
theorem gps_cons {pos : Pos} {k v : Expr} {ks : List (Option Expr)} {vs : List Expr} {a b : Den} {ds : List (Den × Den)} (hk : GE X W0 k a) (hv : GE X W0 v b) (hr : GPs X pos ks vs ds) : GPs X pos (some k :: ks) (v :: vs) ((a, b) :: ds) := pps_cons hk hv hr
theorem merge_ok {g : Gh} {H : Hp} : ∀ {ps : List (Val × Val)} {kvs : List (Key × V)} {acc : List (Val × Val)} {ka : List (Key × V)}, DR K g H acc ka → ps.map (fun p => keyOf p.1) = kvs.map (fun q => some q.1) → VRs K g H (ps.map (·.2)) (kvs.map (·.2)) →
    DR K g H (ps.foldl (fun acc p => dPut acc p.1 p.2) acc) (mergeK ka kvs)
  | [], [], acc, ka, d, _, _ => d
  | [], _ :: _, _, _, _, e, _ => by cases e
  | _ :: _, [], _, _, _, e, _ => by cases e
  | p :: ps, q :: kvs, acc, ka, d, e, r => by
    simp only [List.map_cons, List.cons.injEq] at e
    simp only [List.map_cons, VRs] at r
    obtain ⟨x, xs, e1, r1, r2⟩ := r
    cases e1
    show DR K g H (ps.foldl (fun acc p => dPut acc p.1 p.2) (dPut acc p.1 p.2)) (mergeK (putK ka q.1 q.2) kvs)
    exact merge_ok (d.put e.1 r1) e.2 r2
theorem kvs_of {g : Gh} {H : Hp} : ∀ {ps : List (Val × Val)} {xs : List (V × V)}, (ps.all fun p => (keyOf p.1).isSome) = true → VRs K g H (ps.map (·.1)) (xs.map (·.1)) → VRs K g H (ps.map (·.2)) (xs.map (·.2)) →
    ∃ kvs : List (Key × V), xs = kvs.map (fun kv => (kV kv.1, kv.2)) ∧ ps.map (fun p => keyOf p.1) = kvs.map (fun q => some q.1) ∧ VRs K g H (ps.map (·.2)) (kvs.map (·.2)) ∧ kvs.length = ps.length
  | [], [], _, _, _ => ⟨[], rfl, rfl, VRs.nil, rfl⟩
  | [], _ :: _, _, r, _ => by simp [VRs] at r
  | _ :: _, [], _, r, _ => by simp [VRs] at r
  | p :: ps, x :: xs, a, r1, r2 => by
    simp only [List.all_cons, Bool.and_eq_true] at a
    simp only [List.map_cons, VRs] at r1 r2
    obtain ⟨y, ys, e1, q1, t1⟩ := r1
    cases e1
    obtain ⟨y, ys, e1, q2, t2⟩ := r2
    cases e1
    obtain ⟨kvs, e1, e2, e3, e4⟩ := kvs_of a.2 t1 t2
    obtain ⟨k, hk⟩ := Option.isSome_iff_exists.mp a.1
    refine ⟨(k, x.2) :: kvs, ?_, ?_, ?_, by simp [e4]⟩
    · rw [e1, List.map_cons, ← key_V q1 hk]
    · simp only [List.map_cons, hk, e2]
    · exact VRs.cons q2 e3
theorem ge_disp {keys : List (Option Expr)} {values : List Expr} {ds : List (Den × Den)} {pos : Pos} (hp : GPs X pos keys values ds) (hall : keys.all (·.isSome) = true := by rfl) (hl : keys.length = values.length := by rfl) (h0 : keys ≠ [] := by exact fun h => nomatch h)
    (h15 : keys.length ≤ 15 := by decide) : GE X W (.Dict keys values pos) (dDisp ds) := by
  refine PE.imp (pe_disp hp hall hl h0 h15) fun σ H Q ⟨g, l, h, S, R, A⟩ p np => ?_
  obtain ⟨ES, RD⟩ := R.aside (o := .dK []) np trivial
  unfold dDisp at A
  split at A
  · rename_i ps h1 ep
    split at A
    · rename_i hk
      refine pairs_of (S.extS R ES) RD ep fun g2 H2 xs E R2 r1 r2 => ?_
      obtain ⟨kvs, e1, e2, e3, e4⟩ := kvs_of hk.1 r1 r2
      have hD : p ∈ g2.r := by rw [E.r]; exact List.mem_cons_self ..
      have e0 : H2 p = some (.dK []) := E.keep p _ upd_same (fun z => R.fresh np (.inl z))
      refine ⟨e0, kvs, e1, by rw [e4]; exact hk.2, ?_⟩
      refine promote R np E R2 trivial (fun hm ho => ?_) A
      obtain ⟨ods, eq0, m0⟩ := R2.al p hD
      have d := merge_ok DR.nil e2 (e3.reset (zs := .dK (mergeK [] kvs)) hD eq0 m0)
      exact ⟨_, upd_same, d.1, d.2.own hm ho⟩
    · exact A.elim
  · exact A.elim

/-! ### {} -/
def dNewD : Den := fun _ h => .ok (.ref h.length) (h ++ [.dic []])
theorem ge_dnew {pos : Pos} : GE X W (.Dict [] [] pos) dNewD := PE.imp pe_dnewK fun σ H Q ⟨g, l, h, S, R, A⟩ p np => push_ok R A np fun E => ⟨[], upd_same, DR.nil⟩

/-! ### is of bools -/
def vIsB (v u : Val) (h : Hv) : Res Val := match v, u with
  | .bl a, .bl b => .ok (.bl (decide (a = b))) h
  | _, _ => .fail
def vNotB (v u : Val) (h : Hv) : Res Val := match v, u with
  | .bl a, .bl b => .ok (.bl (!decide (a = b))) h
  | _, _ => .fail
theorem og_isB : OpG X (compareOp .Is) vIsB := by
  refine ⟨_, op_isBl, fun W g H h σ v u x y Q R rv ru A => ?_⟩
  unfold vIsB at A
  split at A
  · simp only [VR] at rv ru
    exact ⟨_, _, rv, ru, A g H _ Ext.refl R (by simp only [VR])⟩
  · exact A.elim
theorem og_notB : OpG X (compareOp .IsNot) vNotB := by
  refine ⟨_, op_notBl, fun W g H h σ v u x y Q R rv ru A => ?_⟩
  unfold vNotB at A
  split at A
  · simp only [VR] at rv ru
    exact ⟨_, _, rv, ru, A g H _ Ext.refl R (by simp only [VR])⟩
  · exact A.elim

/-! ### never -/
def dFail : Den := fun _ _ => .fail
def sFail : Stm := fun _ _ => .fail
theorem ge_fail {e : Expr} : GE X W e dFail := ⟨fun _ _ _ _ _ _ ⟨_, _, _, _, _, A⟩ => A.elim⟩
theorem gs_fail {s : Stmt} : GS X W s sFail := ⟨fun _ _ _ _ _ _ ⟨_, _, _, _, _, A⟩ => A.elim⟩
theorem gss_fail {s : List Stmt} : GSs X W s sFail := ⟨fun _ _ _ _ _ _ ⟨_, _, _, _, _, A⟩ => A.elim⟩

/-! ### what stands at the top -/
theorem ge_top {x : Str} {v : Val} {y : V} {u : Value} {pos : Pos} (hm : X.mg x = some u) (r : RelV y u) (rv : ∀ g H, VR X.K g H v y) (hg : Gl X x := by rfl) (hd : (x == ("__debug__" : Str)) = false := by decide +kernel) : GE X W (.Name x pos) (dC v) := ge_c (pe_glob hg hm r hd) rv
/-- a table at the top: texts to texts -/
def dTab (t : List (List Nat × Val)) (d : Den) : Den := fun l h => (d l h).bind fun v h1 => match v with
  | .str s => (match t.lookup s with
    | some w => .ok w h1
    | none => .fail)
  | _ => .fail
theorem ix_tab {d : Addr} {es : Array DictEntry} {n : Nat} (D : KDict X.K X.w d es n) : IxR X (fun x y H Q => ∃ (z : Str) (u0 : Value) (v0 : V), x = .ref d ∧ y = .str z ∧ PySem.W.nsIn X.K d z = some (some u0) ∧ RelV v0 u0 ∧ Q v0 H) := by
  intro value slice pins s σ H x y v u Q I rx ry h hs
  obtain ⟨z, u0, v0, rfl, rfl, e, r, q⟩ := h
  have hv : v = Value.ref d := rx
  subst hv
  exact tail_any (kd_type D I) PySem.F.slot_dict_getitem.lookup (op_item_kd D pins s σ H (.ref d) (.str z) (.ref d) u Q I rfl ry ⟨z, u0, v0, rfl, rfl, e, r, q⟩) hs
theorem ge_tab (t : List (List Nat × Val)) {d : Addr} {es : Array DictEntry} {n : Nat} {x : Str} {b : Expr} {db : Den} {p pos : Pos} (D : KDict X.K X.w d es n) (hm : X.mg x = some (.ref d)) (ht : ∀ q ∈ t, ∃ u y, PySem.W.nsIn X.K d (sOf q.1) = some (some u) ∧ RelV y u ∧ ∀ g H, VR X.K g H q.2 y)
    (hb : GE X W b db) (hg : Gl X x := by rfl) (hd : (x == ("__debug__" : Str)) = false := by decide +kernel) (hs : PlainIx b := by exact fun _ _ => rfl) : GE X W (.Subscript (.Name x p) b pos) (dTab t db) := by
  refine PE.imp (pe_ix (ix_tab D) (pe_glob (v := .ref d) hg hm rfl hd) hb hs) fun σ H Q ⟨g, l, h, S, R, A⟩ => ?_
  refine tG_of S R A fun v h1 g1 H1 x E S1 R1 r1 A1 => ?_
  split at A1
  · rename_i s
    split at A1
    · rename_i w e
      have hm : ∃ q ∈ t, q = (s, w) := by
        have gen : ∀ tb : List (List Nat × Val), tb.lookup s = some w → (s, w) ∈ tb := by
          intro tb
          induction tb with
          | nil => intro z; cases z
          | cons p tb ih =>
            intro z
            rw [List.lookup_cons] at z
            split at z
            · rename_i q
              cases z
              rw [show s = p.1 by simpa using q]
              exact List.mem_cons_self ..
            · exact List.mem_cons_of_mem _ (ih z)
        exact ⟨_, gen t e, rfl⟩
      obtain ⟨q, hq, rfl⟩ := hm
      obtain ⟨u, y, e1, e2, e3⟩ := ht _ hq
      simp only [VR] at r1
      subst r1
      exact ⟨_, u, y, rfl, rfl, e1, e2, A1 g1 H1 y Ext.refl R1 (e3 g1 H1)⟩
    · exact A1.elim
  · exact A1.elim

/-! ### sorted -/
def isNE : Val → Bool
  | .tup (_ :: _) => true
  | _ => false
def isPlainK : Val → Bool
  | .bl _ | .int _ | .str _ => true
  | _ => false
def sortOk (l : List Val) : Bool := okVs l && (l.all fun a => l.all fun b => PySem.W.alike (pd a) (pd b)) && (l.all isNE || l.all isPlainK || (match l with
  | .tup [] :: _ => true
  | _ => false)) && decide (dpVs l ≤ 190)
noncomputable def sortV (l : List Val) : List Val := l.mergeSort (PySem.W.dataLe false pd)
noncomputable def vSorted (v : Val) (h : Hv) : Res Val := match lstOf h v with
  | some l => if sortOk l = true then .ok (.lst (sortV l)) h else .fail
  | none => .fail
noncomputable def vSortedM (v : Val) (h : Hv) : Res Val := match lstOf h v with
  | some l => if sortOk l = true then .ok (.ref h.length) (h ++ [.lst (sortV l)]) else .fail
  | none => .fail
def rSortG (K : PySem.W.Frag) : List V → Hp → VK → Prop := fun vs H Q => ∃ (g : Gh) (a : Addr) (xs : List V) (bs : List Val), vs = [.ref a] ∧ SqL K H a xs ∧ VRs K g H bs xs ∧ sortOk bs = true ∧ ∀ ys p, VRs K g H (sortV bs) ys → H p = none → Q (.ref p) (upd H p (.lst ys))
theorem each_VR {g : Gh} {H : Hp} : ∀ {bs : List Val} {xs : List V} {us : List Value}, VRs K g H bs xs → Vals xs us → PySem.W.EachIs (fun u b => ∃ x, RelV x u ∧ VR K g H b x) us bs
  | [], xs, us, r, q => by
    simp only [VRs] at r
    subst r
    cases q
    exact .nil
  | b :: bs, xs, us, r, q => by
    simp only [VRs] at r
    obtain ⟨x, ys, rfl, r1, r2⟩ := r
    cases q with
    | cons q1 q2 => exact .cons ⟨x, q1, r1⟩ (each_VR r2 q2)
theorem VRs_each {g : Gh} {H : Hp} : ∀ {bs : List Val} {us : List Value}, PySem.W.EachIs (fun u b => ∃ x, RelV x u ∧ VR K g H b x) us bs → ∃ xs, VRs K g H bs xs ∧ Vals xs us
  | _, _, .nil => ⟨[], VRs.nil, .nil⟩
  | _, _, .cons ⟨x, q1, r1⟩ t => by
    obtain ⟨xs, r2, q2⟩ := VRs_each t
    exact ⟨x :: xs, VRs.cons r1 r2, .cons q1 q2⟩
theorem okVs_mem : ∀ {l : List Val} {v : Val}, okVs l = true → v ∈ l → okV v = true
  | w :: l, v, o, m => by
    simp only [okVs, Bool.and_eq_true] at o
    rcases List.mem_cons.mp m with rfl | m
    · exact o.1
    · exact okVs_mem o.2 m
theorem dpVs_mem : ∀ {l : List Val} {v : Val}, v ∈ l → dpV v ≤ dpVs l
  | w :: l, v, m => by
    simp only [dpVs]
    rcases List.mem_cons.mp m with rfl | m
    · omega
    · have := dpVs_mem m; omega
theorem cr_sortG (hu : X.A.units + 200 < cLine) : CallR X (.builtin "sorted") (rSortG X.K) := by
  intro pins s σ H vs us Q I r h
  obtain ⟨g, a, xs, bs, rfl, hs, rb, ok, q⟩ := h
  obtain ⟨its, rv, hl, hz⟩ := I.list hs
  rw [Vals.ref1 r]
  simp only [sortOk, Bool.and_eq_true, decide_eq_true_eq] at ok
  obtain ⟨⟨⟨o1, o2⟩, o3⟩, o4⟩ := ok
  have hlen : bs.length = its.length := by rw [rb.length, rv.length]
  refine PySem.W.gh_sorted_data (enc := pd) (bs := bs) hl.isList (each_VR rb rv) ?_ (fun d hd d' hd' => ?_) ?_ (by rw [rb.length]; exact hz) (fun b hb => ?_) fun out hlo eo => ?_
  · refine (PySem.W.each_mem (each_VR rb rv)).mono fun u b ⟨⟨x, q1, q2⟩, hb⟩ => ?_
    exact Dp.reads I _ _ _ (VR.dp (okVs_mem o1 hb) q2) q1
  · obtain ⟨b, hb, rfl⟩ := List.mem_map.mp hd
    obtain ⟨b', hb', rfl⟩ := List.mem_map.mp hd'
    exact List.all_eq_true.mp (List.all_eq_true.mp o2 b hb) b' hb'
  · simp only [Bool.or_eq_true] at o3
    rcases o3 with (o3 | o3) | o3
    · refine .inl (.inl fun d hd => ?_)
      obtain ⟨b, hb, rfl⟩ := List.mem_map.mp hd
      have := List.all_eq_true.mp o3 b hb
      unfold isNE at this
      split at this
      · exact ⟨_, _, by simp only [pd, pds]; rfl⟩
      · cases this
    · refine .inl (.inr fun d hd => ?_)
      obtain ⟨b, hb, rfl⟩ := List.mem_map.mp hd
      have := List.all_eq_true.mp o3 b hb
      unfold isPlainK at this
      split at this
      · exact ⟨by simp [pd], fun xs => by simp [pd]⟩
      · exact ⟨by simp [pd], fun xs => by simp [pd]⟩
      · exact ⟨by simp [pd], fun xs => by simp [pd]⟩
      · cases this
    · split at o3
      · exact .inr ⟨_, by simp only [List.map_cons, pd, pds]; rfl⟩
      · cases o3
  · have h1 := dpVs_mem hb
    rw [pd_depth]
    omega
  · obtain ⟨ys, r1, r2⟩ := VRs_each eo
    obtain ⟨ep, he'⟩ := PyProof.Rows.sortedAll_at s.heap its out.toArray
    have hlen2 : ys.length ≤ sizeLine := by rw [r2.length, hlo, rb.length]; exact hz
    exact ⟨.ref _, upd H (s.heap.objs.size + 1) (.lst ys), I.laid (t' := s.toks) (fun _ _ => PyProof.Rows.sortedAll_old) (Nat.le_succ _) ⟨hlen2, out, ep, r2, he'⟩, rfl, q ys _ r1 (I.hok.fresh (Nat.le_succ _))⟩
theorem sorted_at {g : Gh} {H : Hp} {h : Hv} {v : Val} {x : V} {l : List Val} {Q : VK} (R : HR X.K g H h) (r : VR X.K g H v x) (hl : lstOf h v = some l) (ok : sortOk l = true) (c : ∀ ys p, VRs X.K g H (sortV l) ys → H p = none → Q (.ref p) (upd H p (.lst ys))) : rSortG X.K [x] H Q := by
  obtain ⟨a, xs, rfl, s, rs⟩ := lstOf_ok R r hl
  exact ⟨g, a, xs, l, rfl, SqL.of s, rs, ok, c⟩
theorem c1_sorted (hu : X.A.units + 200 < cLine) : C1 X (.builtin "sorted") vSorted := ⟨_, cr_sortG hu, fun W g H h σ v x Q R r A => by
  unfold vSorted at A
  split at A
  · rename_i l hl
    split at A
    · rename_i ok
      refine sorted_at R r hl ok fun ys p ry np => ?_
      obtain ⟨E4, R4⟩ := R.grow (o := .lst ys) np
      refine A g _ (.ref p) E4 R4 ?_
      simp only [VR]
      exact ⟨p, _, rfl, R.fresh np, upd_same, ry.ext R E4⟩
    · exact A.elim
  · exact A.elim⟩
theorem c1_sortedM (hu : X.A.units + 200 < cLine) : C1 X (.builtin "sorted") vSortedM := ⟨_, cr_sortG hu, fun W g H h σ v x Q R r A => by
  unfold vSortedM at A
  split at A
  · rename_i l hl
    split at A
    · rename_i ok
      exact sorted_at R r hl ok fun ys p ry np => push_ok R A np fun E => ⟨ys, upd_same, ry.ext R E⟩
    · exact A.elim
  · exact A.elim⟩
end
end
end GH
set_option Elab.async false
set_option linter.all false
set_option maxRecDepth 100000
set_option maxHeartbeats 1000000
set_option autoImplicit false
/-! All defs at once: levels; the law's end. -/
namespace GH
open PySem PySem.Spec PyProof.Rows L2
variable [TheWorld]
abbrev Gam := Nat → DF
section
variable {X : Cx} {W : WX}
theorem takes0 : Takes X W0 := fun u s' ⟨_, _, _, _, _, _, _, _, _, _, _, _, _, _, _, _, w⟩ => w.elim
/-- arguments, with their number -/
structure GAN (X : Cx) (W : WX) (es : List Expr) (n : Nat) (d : DenG (List Val)) : Prop where
  ga : GA X W es d
  len : ∀ l h vs h', d l h = .ok vs h' → vs.length = n
theorem gan_nil : GAN X W [] 0 dNil := ⟨ga_nil, fun l h vs h' e => by
  simp only [dNil, Res.ok.injEq] at e
  rw [← e.1]; rfl⟩
theorem gan_cons {e : Expr} {es : List Expr} {n : Nat} {d : Den} {r : DenG (List Val)} (ha : GE X W e d) (hr : GAN X W es n r) (hs : starEach (e :: es) X.env = (false, eval e X.env) :: starEach es X.env := by rfl) : GAN X W (e :: es) (n + 1) (dCons d r) := by
  refine ⟨ga_cons ha hr.ga hs, fun l h vs h' q => ?_⟩
  unfold dCons at q
  cases e1 : d l h with
  | exc x h1 => rw [e1] at q; cases q
  | fail => rw [e1] at q; cases q
  | ok v h1 =>
    rw [e1] at q
    simp only [Res.bind_ok] at q
    cases e2 : r l h1 with
    | exc x h2 => rw [e2] at q; cases q
    | fail => rw [e2] at q; cases q
    | ok ws h2 =>
      rw [e2] at q
      simp only [Res.bind_ok, Res.ok.injEq] at q
      rw [← q.1, List.length_cons, hr.len _ _ _ _ e2]
end
/-- a def of the top keeps D -/
structure FnK (P : Program) (w : World) (K : PySem.W.Frag) (mg : Str → Option Value) (base : Heap) (k : Nat) (D : DF) (x : Str) (ps : List Str) : Prop where
  ok : ∃ fd, FnOk P w K mg base (L2.CX P w) k (He.ga K x) fd ps (spG K D ps.length) ∧ Binds K fd ps []
  glo : mg x = some (.ref (He.ga K x))
  keep : PySem.W.keepIn K (.ref (He.ga K x)) = true
section
variable {X : Cx} {W : WX}
theorem ge_fn {D : DF} {k n : Nat} {ps : List Str} {x : Str} {p pos : Pos} {e : Expr} {es : List Expr} {da : DenG (List Val)} (F : FnK X.prog X.w X.K X.mg X.base k D x ps) (hr : Room k X.A) (tk : Takes X W) (ha : GAN X W (e :: es) n da)
    (hn : n = ps.length := by rfl) (hg : Gl X x := by rfl) (hdb : (x == ("__debug__" : Str)) = false := by decide +kernel)
    (he : starEach (e :: es) X.env = (false, eval e X.env) :: starEach es X.env := by rfl) (hpl : (backTo pos (starEach es X.env)).any (·.1) = false := by rfl) : GE X W (.Call (.Name x p) (e :: es) [] pos) (dCall D da) := by
  obtain ⟨fd, F1, b⟩ := F.ok
  exact ge_call F1 hr tk F.glo F.keep b ha.ga (fun l h vs h' q => (ha.len l h vs h' q).trans hn) hg hdb he hpl
end
/-- the defs' promises -/
def AllK (P : Program) (w : World) (K : PySem.W.Frag) (mg : Str → Option Value) (base : Heap) (sig : List (Str × List Str)) (k : Nat) (Γ : Gam) : Prop := ∀ (j : Nat) (x : Str) (ps : List Str), sig[j]? = some (x, ps) → FnK P w K mg base k (Γ j) x ps
def lev (D : Gam → Gam) : Nat → Gam
  | 0 => fun _ _ _ => .fail
  | k + 1 => D (lev D k)
theorem levels {P : Program} {w : World} {K : PySem.W.Frag} {mg : Str → Option Value} {base : Heap} {sig : List (Str × List Str)} {D : Gam → Gam}
    (h0 : ∀ (j : Nat) (x : Str) (ps : List Str), sig[j]? = some (x, ps) → mg x = some (.ref (He.ga K x)) ∧ PySem.W.keepIn K (.ref (He.ga K x)) = true ∧ ∃ fd, Binds K fd ps [])
    (step : ∀ k Γ, AllK P w K mg base sig k Γ → ∀ (j : Nat) (x : Str) (ps : List Str), sig[j]? = some (x, ps) → FnK P w K mg base (k + 1) (D Γ j) x ps) : ∀ k, AllK P w K mg base sig k (lev D k)
  | 0 => fun j x ps e => by
    obtain ⟨g, kp, fd, b⟩ := h0 j x ps e
    refine ⟨⟨fd, ⟨fun vs H Q E h => h.1, fun A outer s H args us vs Q E hr he hb hv hs => ?_⟩, b⟩, g, kp⟩
    obtain ⟨_, _, _, _, _, _, z⟩ := hs
    exact z.elim
  | k + 1 => step k _ (levels h0 step k)
/-- what a law that answers True keeps -/
theorem sp_law {K : PySem.W.Frag} {D : DF} {H : Hp} {a : Addr} {ns : List Int} (hO : Only H) (hs : SqL K H a (ns.map V.int)) (hD : ∃ h', D [.fz (ns.map .int)] [] = .ok (.bl true) h') : spG K D 1 [.ref a] H (fun v _ => v = .bl true) fun _ _ _ => False := by
  obtain ⟨h', e⟩ := hD
  refine ⟨rfl, ⟨[], []⟩, [], [.fz (ns.map .int)], ⟨rfl, List.nodup_nil, fun a ha => absurd ha (by simp), fun a ha => absurd ha (by simp), fun i o a e1 e2 => by simp at e1⟩, ?_, ?_⟩
  · have hint : ∀ ns : List Int, VRs K ⟨[], []⟩ H (ns.map .int) (ns.map V.int) := by
      intro ns
      induction ns with
      | nil => exact VRs.nil
      | cons n ns ih => exact VRs.cons (by simp only [VR]) ih
    refine VRs.one ?_
    simp only [VR]
    refine ⟨a, _, rfl, ?_, hint ns⟩
    rcases hs with (hs | ⟨o, hs⟩) | hs
    · rcases hO a with q | ⟨o, xs, q⟩ <;> rw [q] at hs <;> cases hs
    · exact .inl ⟨o, hs⟩
    · exact .inr hs
  · rw [e]
    intro g' H' x E R r
    simpa only [VR] using r
end GH
set_option Elab.async false
set_option linter.all false
set_option maxRecDepth 100000
set_option maxHeartbeats 1000000
namespace PySem
open Sem (wp)
open AutoSeq1 (wpAny_loadPart')
set_option maxHeartbeats 1000000 in
theorem gh_enumerate_newT (l : Addr) (items : Array Value) (n : Nat) (dct : Option Addr) (sl : Array (Option Value)) :
    Meets (Builtin.«enumerate.__new__» ⟨[.type "enumerate", .ref l], []⟩) (fun _ R s => s.heap.get? l = some { cls := .type "tuple", dict := dct, data := .seq items n, slots := sl } ∧
      R (.ok (.ret (.ref (s.heap.push { cls := .type "tuple_iterator", data := .fields #[.ref l, .int 0 0] }).objs.size)))
        { s with heap := (s.heap.push { cls := .type "tuple_iterator", data := .fields #[.ref l, .int 0 0] }).push { cls := .type "enumerate", data := .fields #[.none, .bool false, .ref s.heap.objs.size, rawInt 0, .none, .none] } }) :=
  .of_wp fun prog w A R s h => by
    obtain ⟨hp, g, d, tk, os⟩ := s; obtain ⟨hl, h⟩ := h
    have hsub := sub_enumerate
    have hL : Heap.IsTuple (Shared.heap ⟨hp, g, d, tk, os⟩) l items := ⟨_, hl, rfl, n, rfl⟩
    wp_walk using wpAny_loadPart' hl
    refine wpAny_stack_any fun st => wpAny_pure ?_
    split
    · rename_i c _ _ _ _ _
      cases (c == Value.type "enumerate")
      · wp_walk using wpAny_loadPart' hl, wpAny_pyIter_tuple hL
        exact ⟨_, rfl, h⟩
      · wp_walk using wpAny_loadPart' hl, wpAny_pyIter_tuple hL
        exact ⟨_, rfl, h⟩
    · wp_walk using wpAny_loadPart' hl, wpAny_pyIter_tuple hL
      exact ⟨_, rfl, h⟩
section
variable {prog : Program} {w : World} {A : Around} {E : Value → Shared → Prop} {s : Shared}
theorem gh_call_enumerate_tuple {l : Addr} {items : Array Value} {Q : Value → Shared → Prop} (hL : s.heap.IsTuple l items)
    (h : ∀ h', IsEnum h' (s.heap.objs.size + 1) s.heap.objs.size 0 .none → h'.IsTupleIter s.heap.objs.size l 0 → h'.objs.size = s.heap.objs.size + 2 →
      (∀ b o, s.heap.get? b = some o → h'.get? b = some o) → Q (.ref (s.heap.objs.size + 1)) { s with heap := h' }) :
    wpAny (model prog w) A (call (.type "enumerate") [.ref l]) Q E s := by
  obtain ⟨⟨c, dct, dt, sl⟩, hl, hc, n, hd⟩ := hL
  replace hc : c = .type "tuple" := hc
  replace hd : dt = .seq items n := hd
  subst hc hd
  refine callType_new F.called_enumerate (by decide) (F.typeCall_enumerate_1 _) (F.newCall_enumerate_1 _) (fun obj => F.args_object_init_2 obj _) F.entry_enumerate_new
    (gh_enumerate_newT l items n dct sl) ⟨hl, ?_⟩
  have hz : (s.heap.push { cls := .type "tuple_iterator", data := .fields #[.ref l, .int 0 0] }).objs.size = s.heap.objs.size + 1 := Heap.size_push ..
  show _ ∧ _
  rw [hz]
  have he : IsEnum ((s.heap.push { cls := .type "tuple_iterator", data := .fields #[.ref l, .int 0 0] }).push
      { cls := .type "enumerate", data := .fields #[.none, .bool false, .ref s.heap.objs.size, rawInt 0, .none, .none] }) (s.heap.objs.size + 1) s.heap.objs.size 0 .none := by
    have := Heap.get?_push_size (s.heap.push { cls := .type "tuple_iterator", data := .fields #[.ref l, .int 0 0] })
      (o := { cls := .type "enumerate", data := .fields #[.none, .bool false, .ref s.heap.objs.size, rawInt 0, .none, .none] }) rfl
    rw [hz] at this; exact this
  exact ⟨⟨_, he, rfl⟩, h _ he ⟨_, Heap.get?_push_of_some _ (Heap.get?_push_size _ rfl), rfl, rfl⟩ (by rw [Heap.size_push, hz]) fun b o x => Heap.get?_push_of_some _ (Heap.get?_push_of_some _ x)⟩
end
end PySem
namespace GH
open PySem PySem.Spec PyProof.Rows L2
variable [TheWorld]
/-- the tuple at a, each item in a new pair -/
def IteT (K : PySem.W.Frag) (a : Addr) : It :=
  ⟨fun i H => ∃ (xs : List V) (x : V), SqT K H a xs ∧ xs[i]? = some x, fun i H v H' => ∃ T x, v = .ref T ∧ H T = none ∧ H' = upd H T (.tup [.int (i : Nat), x]) ∧ ∀ xs, SqT K H a xs → xs[i]? = some x, fun i H => ∃ xs : List V, SqT K H a xs ∧ xs.length ≤ i⟩
theorem turn_enumT {P : Program} {w : World} {K : PySem.W.Frag} {elts : List Expr} {kk : Nat} {tpos : Pos} (a e it : Addr) :
    Turn P w K (.Tuple elts kk tpos) (IteT K a) [e, it] e (fun i h => (∃ old, IsEnum h e it ((i : Nat) : Int) old) ∧ h.IsTupleIter it a i ∧ e ≠ it) where
  mem := by simp
  obj := fun i h st b hb => by
    obtain ⟨⟨old, he⟩, ⟨o, ho, hc, hd⟩, _⟩ := st
    have e' : b = e ∨ b = it := by simpa using hb
    rcases e' with z | z
    · rw [z]; exact ⟨_, he, fun v q => nomatch q⟩
    · rw [z]; exact ⟨o, ho, fun v q => by rw [hd] at q; cases q⟩
  keep := fun i h h' st k => let ⟨⟨old, he⟩, hi, hne⟩ := st; ⟨⟨old, k e (by simp) _ he⟩, hi.at fun o q => k it (by simp) o q, hne⟩
  item := by
    intro X hP hw hK hc i pins s σ H E I hf st hg
    subst hP hw hK
    obtain ⟨⟨old, he⟩, hit, hne⟩ := st
    obtain ⟨xs, x, hq, hx⟩ := hg
    obtain ⟨its, rv, p, hz⟩ := I.tuple hq
    obtain ⟨u, hu, ru⟩ := rv.get hx
    have p : s.heap.IsTuple a its.toArray := p
    have hel : e < s.heap.objs.size := Heap.lt_size he
    have hil : it < s.heap.objs.size := by obtain ⟨_, q, _⟩ := hit; exact Heap.lt_size q
    have nai : a ≠ it := by
      rintro rfl
      obtain ⟨o, ho, hc, _⟩ := hit
      obtain ⟨o2, ho2, hc2, _⟩ := p
      rw [ho] at ho2
      cases ho2
      rw [hc] at hc2
      exact absurd hc2 (by decide)
    have nae : e ∉ [it, a] := by
      intro z
      have z : e = it ∨ e = a := by simpa using z
      rcases z with z | rfl
      · exact hne z
      · obtain ⟨o2, ho2, hc2, _⟩ := p
        rw [he] at ho2
        cases ho2
        have hc2 : Value.type "enumerate" = Value.type "tuple" := hc2
        exact absurd hc2 (by decide)
    have D := Draws.tuple (prog := X.prog) (w := X.w) (A := X.A.in1) (I.ok.hd hc) it a nai its.toArray
    refine wpAny_pyNext_enum_itemD D he ⟨hit, p⟩ (by
      have := (List.getElem?_eq_some_iff.mp hu).1
      simpa using this) hne nae fun u' h' tk hP' ho hst' hT hsz hk => ?_
    obtain rfl : u = u' := by
      have : its[i]? = some u' := by simpa using hP'
      rw [hu] at this
      exact Option.some.inj this
    refine ⟨_, rfl, wpAny_letOwnedTupleGo_enum (s := { s with heap := h', toks := tk + 1 }) ho fun h'' he' sb => ?_⟩
    have hT2 : h''.get? s.heap.objs.size = some { cls := .type "tuple", data := .seq #[.int i tk, u] } := (sb.2 _ (Nat.ne_of_gt hel)).trans hT
    have new : ObjOk X.prog X.w (upd H s.heap.objs.size (.tup [.int (i : Nat), x])) h'' s.heap.objs.size (.tup [.int (i : Nat), x]) :=
      ⟨by show 2 ≤ sizeLine; decide, [.int i tk, u], .cons ⟨_, rfl⟩ (.cons ru .nil), ⟨_, hT2, rfl, _, rfl⟩⟩
    have I1 : Inv X pins σ (upd H s.heap.objs.size (.tup [.int (i : Nat), x])) { s with heap := h'', toks := tk + 1 } :=
      I.turnedNew (ch := [e, it]) (fun b ob hb q => (sb.2 b (fun z => hb (by simp [z]))).trans (hk b ob (fun z => hb (by simp [z])) (fun z => hb (by simp [z])) q)) hf (Nat.le_refl _) new
    refine ⟨.ref s.heap.objs.size, _, I1, rfl, ⟨_, x, rfl, I.hok.fresh (Nat.le_refl _), rfl, fun ys hy => by rw [I.tuple_inj hy hq]; exact hx⟩, ⟨⟨u, ?_⟩, hst'.1.at fun o q => (sb.2 it (Ne.symm hne)).trans q, hne⟩, fun b hb => ?_⟩
    · have e1 : ((i + 1 : Nat) : Int) = (i : Int) + 1 := by omega
      rw [e1]; exact he'
    · have hb' : b < s.heap.objs.size := by
        have e' : b = e ∨ b = it := by simpa using hb
        rcases e' with z | z
        · rw [z]; exact hel
        · rw [z]; exact hil
      rw [upd_ne (Nat.ne_of_lt hb')]
      exact (hf b hb).1
  done := by
    intro X hP hw hK hc i pins s σ H E I hf st hg
    subst hP hw hK
    obtain ⟨⟨old, he⟩, hit, hne⟩ := st
    obtain ⟨xs, hq, hx⟩ := hg
    obtain ⟨its, rv, p, hz⟩ := I.tuple hq
    have p : s.heap.IsTuple a its.toArray := p
    obtain ⟨f0, f1, f2, f3, f4, f5⟩ := hf it (by simp)
    have hl := rv.length
    have hT : s.TypeIs (.ref e) "enumerate" := ⟨_, he, rfl⟩
    unfold pyNext
    refine wpAny_bind (wpAny_attempt (wpAny_callSpecial?_slot (name := Str.ofString "__next__") hT F.slot_enumerate_next
      (wpAny_call_entry F.slot_enumerate_next hT F.entry_enumerate_next ?_ (F.args_enumerate_next_1 _))))
    show wpAny _ _ (field (.ref e) 2 >>= _) _ _ _
    refine wpAny_bind (wpAny_field he rfl (x := .ref it) rfl ?_)
    refine wpAny_bind (wpAny_nextOf_tuple_end (A := X.A.in1) (I.ok.hd hc) hit p (by simp; omega) fun h' x eb hx' => ?_)
    obtain ⟨o, ho, hc⟩ := hx'
    refine wpAny_bind (wpAny_isInstance (T := "StopIteration") (b := true) ⟨o, ho, hc⟩ isSubtype_stop ?_)
    exact wpAny_pure ⟨rfl, I.turned (t' := s.toks) (fun b o hb q => eb b o hb q) f0 f1 f3 f4 f5⟩
  self := fun A i s Q E st h => let ⟨⟨_, he⟩, _⟩ := st; wpAny_pyIter_enum he h
section
def enumL (l : List Val) : List Val := l.mapIdx fun i v => .tup [.int (i : Nat), v]
def vEnum (v : Val) (h : Hv) : Res Src := match v with
  | .tup l => .ok (enumL l, none) h
  | .lst l => .ok (enumL l, none) h
  | .fz l => .ok (enumL l, none) h
  | _ => .fail
def iEnumG (d : Den) : DenG Src := fun l h => (d l h).bind vEnum
variable {K : PySem.W.Frag} {g0 g : Gh} {H0 H : Hp}
theorem serves_pairs {J : It} {xs : List V} {l : List Val} {G : Hp → Prop} {h : Hv} (R0 : HR K g0 H0 h) (w : Walk J xs.length G (YPair (fun i => some (.int (i : Nat))) (fun i => xs[i]?))) (hG : ∀ g H, ExtS g0 H0 g H → G H) (r : VRs K g0 H0 l xs) :
    Serves K J g0 H0 (enumL l, none) :=
  serves_of (n := xs.length) (by simp [enumL, r.length]) fun g H h E R _ => ⟨_, _, w, hG g H E, fun i x H' v hv y => by
    obtain ⟨T, x1, y1, rfl, nT, rfl, e1, e2⟩ := y
    unfold enumL at hv
    rw [List.getElem?_mapIdx] at hv
    cases ez : l[i]? with
    | none => rw [ez] at hv; cases hv
    | some p =>
      rw [ez] at hv
      simp at hv
      subst hv
      obtain ⟨a2, b2, c2⟩ := r.get ez
      have e1 : some (V.int (i : Nat)) = some x1 := e1
      have e2 : xs[i]? = some y1 := e2
      rw [e2] at b2; cases b2
      cases e1
      obtain ⟨E4, R4⟩ := R.grow (o := .tup [.int (i : Nat), y1]) nT
      refine ⟨E4, R4, ?_⟩
      simp only [VR]
      exact ⟨T, _, rfl, SqT.of upd_same, VRs.cons (by simp only [VR]) (.one ((c2.extS R0 E).ext R E4))⟩⟩
theorem walk_enumT {a : Addr} {xs : List V} : Walk (IteT K a) xs.length (fun H => SqT K H a xs) (YPair (fun i => some (.int (i : Nat))) (fun i => xs[i]?)) :=
  ⟨fun i _ hi q => ⟨xs, xs[i], q, by simp [hi]⟩, fun _ q => ⟨xs, q, Nat.le_refl _⟩, fun i H x H' _ q y => by
    obtain ⟨T, z, e1, e2, e3, e4⟩ := y
    exact ⟨T, _, z, e1, e2, e3, rfl, e4 xs q⟩⟩
variable {X : Cx} {W : WX}
theorem gi_enum {e : Expr} {d : Den} {p pos tpos : Pos} {elts : List Expr} {kk : Nat} (he : GE X W e d) (hm : X.mg "enumerate" = none) (hg : Gl X "enumerate" := by rfl) (hs : starEach [e] X.env = (false, eval e X.env) :: starEach [] X.env := by rfl) (hs1 : starEach [e] X.env = [(false, eval e X.env)] := by rfl) :
    GI X W (.Tuple elts kk tpos) (.Call (.Name "enumerate" p) [e] [] pos) (iEnumG d) := by
  refine ⟨fun pins s σ H R I ⟨g, l, h, S, Rh, A⟩ => ?_⟩
  have start : tCons (tG X.K W (vr X.K) d) tNil σ H fun vs H1 => ∃ x v h1 g1, vs = [x] ∧ HR X.K g1 H1 h1 ∧ VR X.K g1 H1 v x ∧ AfterI X.K W σ g1 H1 R (vEnum v h1) :=
    tG_I S Rh A fun v h1 g1 H1 x E S1 R1 r1 A1 => ⟨x, v, h1, g1, rfl, R1, r1, A1⟩
  refine Call_ (ld_blt I hg hm boot_enumerate (PyProof.Rows.callWith_type1 (thn ((pa_cons he pa_nil hs).run pos pins s σ H _ I start) fun us s1 ⟨vs, H1, I1, r1, q1⟩ => ?_) hs1 rfl))
  obtain ⟨x, v, h1, g1, rfl, R1, rv, A1⟩ := q1
  cases r1 with
  | cons r rr =>
    cases rr
    have fp : ∀ b ∈ [s1.heap.objs.size + 1, s1.heap.objs.size], FpOk X pins H1 b := fun b hb => by
      have e' : b = s1.heap.objs.size + 1 ∨ b = s1.heap.objs.size := by simpa using hb
      have hle : s1.heap.objs.size ≤ b := by
        rcases e' with z | z
        · rw [z]; exact Nat.le_add_right _ _
        · rw [z]; exact Nat.le_refl _
      exact I1.fpOk hle (I1.hok.fresh hle)
    cases v with
    | tup items =>
      simp only [VR] at rv
      obtain ⟨a, xs, rfl, hq, rs⟩ := rv
      cases r
      obtain ⟨its, rv, p', hz⟩ := I1.tuple hq
      refine PySem.gh_call_enumerate_tuple (show s1.heap.IsTuple a its.toArray from p') fun h' he hit hsz hk => wpAny_pyIter_enum he ?_
      have I2 : Inv X pins σ H1 { s1 with heap := h' } := I1.kept (t' := s1.toks) hk
      exact ⟨s1.heap.objs.size + 1, [s1.heap.objs.size + 1, s1.heap.objs.size], _, _, H1, rfl, I2, turn_enumT a (s1.heap.objs.size + 1) s1.heap.objs.size, ⟨⟨.none, he⟩, hit, Nat.succ_ne_self _⟩, fp,
        A1.2 g1 H1 _ Ext.refl R1 (by simp only [enumL, List.length_mapIdx, rs.length]; exact hz) (serves_pairs R1 walk_enumT (fun g H E => sqT_ext R1 E hq) rs)⟩
    | lst items =>
      simp only [VR] at rv
      obtain ⟨a, xs, rfl, na, hq, rs⟩ := rv
      cases r
      obtain ⟨its, rv, p', hz⟩ := I1.list (SqL.of hq)
      refine call_enumerate_list p'.isList fun h' he hit hsz hk => wpAny_pyIter_enum he ?_
      have I2 : Inv X pins σ H1 { s1 with heap := h' } := I1.kept (t' := s1.toks) hk
      exact ⟨s1.heap.objs.size + 1, [s1.heap.objs.size + 1, s1.heap.objs.size], _, _, H1, rfl, I2, turn_enum a (s1.heap.objs.size + 1) s1.heap.objs.size, ⟨⟨.none, he⟩, hit, Nat.succ_ne_self _⟩, fp,
        A1.2 g1 H1 _ Ext.refl R1 (by simp only [enumL, List.length_mapIdx, rs.length]; exact hz) (serves_pairs R1 walk_enum (fun g H E => sqL_ext R1 E na (SqL.of hq)) rs)⟩
    | fz items =>
      simp only [VR] at rv
      obtain ⟨a, xs, rfl, hq, rs⟩ := rv
      cases r
      obtain ⟨its, rv, p', hz⟩ := I1.list hq.sq
      refine call_enumerate_list p'.isList fun h' he hit hsz hk => wpAny_pyIter_enum he ?_
      have I2 : Inv X pins σ H1 { s1 with heap := h' } := I1.kept (t' := s1.toks) hk
      exact ⟨s1.heap.objs.size + 1, [s1.heap.objs.size + 1, s1.heap.objs.size], _, _, H1, rfl, I2, turn_enum a (s1.heap.objs.size + 1) s1.heap.objs.size, ⟨⟨.none, he⟩, hit, Nat.succ_ne_self _⟩, fp,
        A1.2 g1 H1 _ Ext.refl R1 (by simp only [enumL, List.length_mapIdx, rs.length]; exact hz) (serves_pairs R1 walk_enum (fun g H E => (hq.imp fun o s => E.keep _ _ s (R1.not_own s fun z => z)).sq) rs)⟩
    | _ => exact A1.elim
end
/-! ### a, b = x, y -/
section
variable {X : Cx} {W : WX}
def sPar (i j : Nat) (d : DenG (List Val)) : Stm := fun l h => (d l h).to l fun vs h1 => match vs with
  | [v, w] => .nx ((l.set i (some v)).set j (some w)) h1
  | _ => .fail
theorem gs_par (i j : Nat) {x y : Str} {a b : Expr} {d : DenG (List Val)} {px py pt pos : Pos} {kt k2 pt2} (hc : X.calm = true) (hN : X.N.Nodup) (ha : GA X W [a, b] d) (hi : X.N[i]? = some x := by rfl) (hj : X.N[j]? = some y := by rfl) (hij : i ≠ j := by decide)
    (hx : X.env.scope.names.lookup x = some .local := by rfl) (hy : X.env.scope.names.lookup y = some .local := by rfl)
    (hw : swappedStores [.Tuple [.Name x px, .Name y py] kt pt] (.Tuple [a, b] k2 pt2) X.env = pure (some [x, y]) := by rfl)
    (hs : swapsWithSole [.Tuple [.Name x px, .Name y py] kt pt] (.Tuple [a, b] k2 pt2) pos.line X.env = pure false := by rfl) :
    GS X W (.Assign [.Tuple [.Name x px, .Name y py] kt pt] (.Tuple [a, b] k2 pt2) pos) (sPar i j d) := by
  refine PS.imp (ps_par hc hN hi hj hij hx hy ha hw hs) fun D σ H ⟨g, l, h, S, R, A⟩ => ?_
  refine tG_to S R A fun vs h1 g1 H1 xs E S1 R1 r1 A1 => ?_
  split at A1
  · rename_i v w
    have r1 : VRs X.K g1 H1 [v, w] xs := r1
    simp only [VRs] at r1
    obtain ⟨x1, _, rfl, rx, x2, _, rfl, ry, rfl⟩ := r1
    exact ⟨x1, x2, rfl, A1 g1 H1 _ Ext.refl R1 ((S1.set i rx).set j ry)⟩
  · exact A1.elim
end
end GH
set_option Elab.async false
set_option linter.all false
set_option autoImplicit false
namespace GH
open PySem PySem.Spec PyProof.Rows L2
variable [TheWorld]
def CXA (P : Program) : CXT := fun outer H s E u s' => ∃ w, L2.CX P w outer H s E u s'
theorem cxa_none {P : Program} (H : Hp) (s : Shared) (e : Value) (s' : Shared) (h : CXA P [] H s (fun _ _ _ => False) e s') : False := by
  obtain ⟨w, h⟩ := h
  obtain ⟨_, _, _, _, _, _, _, _, _, _, _, _, z⟩ := h
  exact z
theorem fn_cxa {P : Program} {w : World} {K : PySem.W.Frag} {mg : Str → Option Value} {base : Heap} {k : Nat} {f : Addr} {fd : FuncData} {ps : List Str} {sp : Sp} (F : FnOk P w K mg base (L2.CX P w) k f fd ps sp) : FnOk P w K mg base (CXA P) k f fd ps sp :=
  ⟨F.len, fun A outer s H args us vs Q E hr he hb hv hs => PySem.codeAny_mono (F.run A outer s H args us vs Q E hr he hb hv hs) fun r s' c => by
    unfold CR at c ⊢
    split at c
    · exact c
    · exact c
    · exact ⟨w, c⟩⟩
theorem glo_of {K : PySem.W.Frag} {mg : Str → Option Value} {base : Heap} (X : K.In base) (G : base.Ns mainGlobals mg) {x : Str} (c : (He.Fa.glo x).ok K = true) : mg x = some (.ref (He.ga K x)) := He.glo_ok X G c
end GH
set_option Elab.async false
set_option linter.all false
set_option maxRecDepth 100000
set_option maxHeartbeats 1000000
set_option autoImplicit false
/-! Plain reasoning about the functions. -/
namespace GH
open PySem
variable [TheWorld]
/-! ### what holds behind -/
def ok {α : Type} (r : Res α) (P : α → Hv → Prop) : Prop := match r with
  | .ok v h => P v h
  | _ => False
@[simp] theorem ok_ok {α : Type} (v : α) (h : Hv) (P : α → Hv → Prop) : ok (.ok v h) P = P v h := rfl
@[simp] theorem ok_fail {α : Type} (P : α → Hv → Prop) : ok (.fail : Res α) P = False := rfl
@[simp] theorem ok_exc {α : Type} (e : Ex) (h : Hv) (P : α → Hv → Prop) : ok (.exc e h : Res α) P = False := rfl
@[simp] theorem ok_bind {α β : Type} (r : Res α) (k : α → Hv → Res β) (P : β → Hv → Prop) : ok (r.bind k) P = ok r fun v h => ok (k v h) P := by
  cases r <;> rfl
theorem ok_imp {α : Type} {r : Res α} {P Q : α → Hv → Prop} (h : ok r P) (i : ∀ v h, P v h → Q v h) : ok r Q := by
  cases r with
  | ok v h1 => exact i _ _ h
  | exc e h1 => exact h
  | fail => exact h
theorem ok_eq {α : Type} {r : Res α} {P : α → Hv → Prop} (h : ok r P) : ∃ v h', r = .ok v h' ∧ P v h' := by
  cases r with
  | ok v h1 => exact ⟨v, h1, rfl, h⟩
  | exc e h1 => exact h.elim
  | fail => exact h.elim
theorem ok_ite {α : Type} {c : Prop} [Decidable c] {a b : Res α} {P : α → Hv → Prop} : ok (if c then a else b) P ↔ (c → ok a P) ∧ (¬c → ok b P) := by
  by_cases h : c <;> simp [h]
structure Post where
  nx : Loc → Hv → Prop := fun _ _ => False
  rt : Val → Hv → Prop := fun _ _ => False
  bk : Loc → Hv → Prop := fun _ _ => False
  ct : Loc → Hv → Prop := fun _ _ => False
def sok (r : SRes) (P : Post) : Prop := match r with
  | .nx l h => P.nx l h
  | .rt v h => P.rt v h
  | .bk l h => P.bk l h
  | .ct l h => P.ct l h
  | _ => False
@[simp] theorem sok_nx (l : Loc) (h : Hv) (P : Post) : sok (.nx l h) P = P.nx l h := rfl
@[simp] theorem sok_rt (v : Val) (h : Hv) (P : Post) : sok (.rt v h) P = P.rt v h := rfl
@[simp] theorem sok_bk (l : Loc) (h : Hv) (P : Post) : sok (.bk l h) P = P.bk l h := rfl
@[simp] theorem sok_ct (l : Loc) (h : Hv) (P : Post) : sok (.ct l h) P = P.ct l h := rfl
@[simp] theorem sok_fail (P : Post) : sok .fail P = False := rfl
@[simp] theorem sok_exc (e : Ex) (l : Loc) (h : Hv) (P : Post) : sok (.exc e l h) P = False := rfl
@[simp] theorem sok_to {α : Type} (r : Res α) (l : Loc) (k : α → Hv → SRes) (P : Post) : sok (r.to l k) P = ok r fun v h => sok (k v h) P := by
  cases r <;> rfl
@[simp] theorem sok_then (r : SRes) (k : Stm) (P : Post) : sok (r.andThen k) P = sok r { P with nx := fun l h => sok (k l h) P } := by
  cases r <;> rfl
@[simp] theorem sok_turn (r : SRes) (k : Stm) (P : Post) : sok (r.turn k) P = sok r { P with nx := fun l h => sok (k l h) P, ct := fun l h => sok (k l h) P, bk := P.nx } := by
  cases r <;> rfl
theorem sok_ite {c : Prop} [Decidable c] {a b : SRes} {P : Post} : sok (if c then a else b) P ↔ (c → sok a P) ∧ (¬c → sok b P) := by
  by_cases h : c <;> simp [h]
theorem sok_imp {r : SRes} {P Q : Post} (h : sok r P) (n : ∀ l h, P.nx l h → Q.nx l h) (t : ∀ v h, P.rt v h → Q.rt v h) (b : ∀ l h, P.bk l h → Q.bk l h) (c : ∀ l h, P.ct l h → Q.ct l h) : sok r Q := by
  cases r with
  | nx l h1 => exact n _ _ h
  | rt v h1 => exact t _ _ h
  | bk l h1 => exact b _ _ h
  | ct l h1 => exact c _ _ h
  | exc e l h1 => exact h.elim
  | fail => exact h.elim
@[simp] theorem ok_run (n : Nat) (b : Stm) (args : List Val) (h : Hv) (P : Val → Hv → Prop) : ok (runDef n b args h) P = sok (b (args.map some ++ List.replicate (n - args.length) none) h) { nx := fun _ h => P .non h, rt := P } := by
  unfold runDef
  cases b (args.map some ++ List.replicate (n - args.length) none) h <;> rfl
def tok (r : TRes) (P : Loc → Hv → Prop) : Prop := match r with
  | .ok l h => P l h
  | _ => False
@[simp] theorem sok_s (r : TRes) (P : Post) : sok r.s P = tok r P.nx := by cases r <;> rfl
@[simp] theorem tok_ok (l : Loc) (h : Hv) (P : Loc → Hv → Prop) : tok (.ok l h) P = P l h := rfl
@[simp] theorem tok_fail (P : Loc → Hv → Prop) : tok .fail P = False := rfl
@[simp] theorem tok_toT {α : Type} (r : Res α) (l : Loc) (k : α → Hv → TRes) (P : Loc → Hv → Prop) : tok (r.toT l k) P = ok r fun v h => tok (k v h) P := by cases r <;> rfl
@[simp] theorem tok_bind (r : TRes) (k : Loc → Hv → TRes) (P : Loc → Hv → Prop) : tok (r.bind k) P = tok r fun l h => tok (k l h) P := by cases r <;> rfl

/-! ### the combinators, read at a state -/
section
variable (l : Loc) (h : Hv)
@[simp] theorem e_seq (a b : Stm) : sSeq a b l h = (a l h).andThen b := rfl
@[simp] theorem e_next : sNext l h = .nx l h := rfl
@[simp] theorem e_ret (d : Den) : sRet d l h = (d l h).to l .rt := rfl
@[simp] theorem e_retN : sRetN l h = .rt .non h := rfl
@[simp] theorem e_expr (d : Den) : sExpr d l h = (d l h).to l fun _ h1 => .nx l h1 := rfl
@[simp] theorem e_if (c : DenG Bool) (a b : Stm) : sIf c a b l h = (c l h).to l fun t h1 => if t then a l h1 else b l h1 := rfl
@[simp] theorem e_break : sBreak l h = .bk l h := rfl
@[simp] theorem e_cont : sCont l h = .ct l h := rfl
@[simp] theorem e_asg (d : Den) (t : Tg) : sAsg d t l h = (d l h).to l fun v h1 => (t v l h1).s := rfl
@[simp] theorem e_name (i : Nat) (v : Val) : gName i v l h = .ok (l.set i (some v)) h := rfl
@[simp] theorem e_for (di : DenG Src) (t : Tg) (b : Stm) : sFor di t b l h = (di l h).to l fun s h1 => forL t b s s.1 l h1 := rfl
@[simp] theorem e_c (v : Val) : dC v l h = .ok v h := rfl
@[simp] theorem e_nil : dNil l h = .ok [] h := rfl
@[simp] theorem e_cons (d : Den) (r : DenG (List Val)) : dCons d r l h = (d l h).bind fun v h1 => (r l h1).bind fun vs h2 => .ok (v :: vs) h2 := rfl
@[simp] theorem e_tup (r : DenG (List Val)) : dTup r l h = (r l h).bind mkTup := rfl
@[simp] theorem e_lst (r : DenG (List Val)) : dLst r l h = (r l h).bind mkLst := rfl
@[simp] theorem e_lstM (r : DenG (List Val)) : dLstM r l h = (r l h).bind mkRef := rfl
@[simp] theorem e_bin (f : Val → Val → Hv → Res Val) (a b : Den) : dBin f a b l h = (a l h).bind fun v h1 => (b l h1).bind fun u h2 => f v u h2 := rfl
@[simp] theorem e_b (d : Den) : dB d l h = resB (d l h) := rfl
@[simp] theorem e_and (a b : DenG Bool) : dAnd a b l h = (a l h).bind fun c h1 => if c then b l h1 else .ok false h1 := rfl
@[simp] theorem e_or (a b : DenG Bool) : dOr a b l h = (a l h).bind fun c h1 => if c then .ok true h1 else b l h1 := rfl
@[simp] theorem e_not (a : DenG Bool) : dNot a l h = (a l h).bind fun c h1 => .ok (!c) h1 := rfl
@[simp] theorem e_dif (c : DenG Bool) (a b : Den) : dIf c a b l h = (c l h).bind fun t h1 => if t then a l h1 else b l h1 := rfl
@[simp] theorem e_call (D : DF) (r : DenG (List Val)) : dCall D r l h = (r l h).bind fun vs h1 => D vs h1 := rfl
@[simp] theorem e_fn (f : Val → Hv → Res Val) (d : Den) : dFn f d l h = (d l h).bind f := rfl
@[simp] theorem e_len (d : Den) : dLen d l h = (d l h).bind vLen := rfl
@[simp] theorem e_tru (d : Den) : dTru d l h = (d l h).bind vTru := rfl
@[simp] theorem e_iseq (d : Den) : iSeq d l h = (d l h).bind vIter := rfl
@[simp] theorem e_rng1 (d : Den) : iRange1 d l h = (d l h).bind vRange1 := rfl
@[simp] theorem e_rng2 (a b : Den) : iRange2 a b l h = (a l h).bind fun v h1 => (b l h1).bind fun u h2 => vRange2 v u h2 := rfl
@[simp] theorem e_enum (d : Den) : iEnumG d l h = (d l h).bind vEnum := rfl
@[simp] theorem e_yes : dYes l h = .ok true h := rfl
@[simp] theorem e_cut (d : Den) (lo hi : DO) : dCut d lo hi l h = (d l h).bind fun v h1 => (lo l h1).bind fun a h2 => (hi l h2).bind fun b h3 => vCut v a b h3 := rfl
@[simp] theorem e_onone : oNone l h = .ok none h := rfl
@[simp] theorem e_newd : dNewD l h = .ok (.ref h.length) (h ++ [.dic []]) := rfl
@[simp] theorem e_meth1 (p : Hv → Val → Bool) (f : Val → Val → Hv → Res Val) (o e : Den) : dMeth1 p f o e l h = (o l h).bind fun x h1 => if p h1 x = true then (e l h1).bind fun v h2 => f x v h2 else .fail := rfl
@[simp] theorem e_meth0 (p : Hv → Val → Bool) (f : Val → Hv → Res Val) (o : Den) : dMeth0 p f o l h = (o l h).bind fun x h1 => if p h1 x = true then f x h1 else .fail := rfl
@[simp] theorem e_sub (o i : Den) (v : Val) : gSub o i v l h = (o l h).toT l fun x h1 => (i l h1).toT l fun y h2 => match vSet x y v h2 with
  | some h3 => .ok l h3
  | none => .fail := rfl
end
/-- one statement, what holds behind it, the rest -/
theorem sok_seq {a b : Stm} {l : Loc} {h : Hv} {P : Post} (R : Loc → Hv → Prop) (h1 : sok (a l h) { P with nx := R }) (h2 : ∀ l h, R l h → sok (b l h) P) : sok (sSeq a b l h) P := by
  rw [e_seq, sok_then]
  exact sok_imp h1 (fun l h r => h2 l h r) (fun _ _ z => z) (fun _ _ z => z) (fun _ _ z => z)
theorem ok_resB {r : Res Val} {P : Bool → Hv → Prop} (k : ok r fun v h => ∃ b, v = .bl b ∧ P b h) : ok (resB r) P := by
  cases r with
  | ok v h =>
    obtain ⟨b, rfl, p⟩ := k
    exact p
  | exc e h => exact k.elim
  | fail => exact k.elim
@[simp] theorem resB_bl (b : Bool) (h : Hv) : resB (.ok (.bl b) h) = .ok b h := rfl
@[simp] theorem vTru_bl (b : Bool) (h : Hv) : vTru (.bl b) h = .ok b h := rfl
@[simp] theorem ok_resB_eq {r : Res Val} {P : Bool → Hv → Prop} : ok (resB r) P = ok r fun v h => match v with
  | .bl b => P b h
  | _ => False := by
  cases r with
  | ok v h => cases v <;> rfl
  | exc e h => rfl
  | fail => rfl
/-- a loop over items, an invariant over what is left -/
theorem forL_inv {t : Tg} {b : Stm} {s : Src} {P : Post} (I : List Val → Loc → Hv → Prop)
    (step : ∀ x r l h, I (x :: r) l h → srcOk s h ∧ tok (t x l h) fun l1 h1 => sok (b l1 h1) { nx := fun l2 h2 => I r l2 h2, ct := fun l2 h2 => I r l2 h2, bk := P.nx, rt := P.rt })
    (done : ∀ l h, I [] l h → srcOk s h ∧ P.nx l h) : ∀ (items : List Val) (l : Loc) (h : Hv), I items l h → sok (forL t b s items l h) P
  | [], l, h, i => by
    obtain ⟨a, q⟩ := done l h i
    simp only [forL, if_pos a, sok_nx]
    exact q
  | x :: r, l, h, i => by
    obtain ⟨a, q⟩ := step x r l h i
    simp only [forL, if_pos a]
    cases e : t x l h with
    | ok l1 h1 =>
      rw [e] at q
      simp only [tok_ok] at q
      simp only [sok_turn]
      exact sok_imp q (fun l2 h2 i2 => forL_inv I step done r l2 h2 i2) (fun _ _ z => z) (fun _ _ z => z) (fun l2 h2 i2 => forL_inv I step done r l2 h2 i2)
    | exc x1 l1 h1 => rw [e] at q; exact q.elim
    | fail => rw [e] at q; exact q.elim
/-- a comprehension's items, an invariant -/
theorem lcL_inv {t : Tg} {c : DenG Bool} {e : Den} {s : Src} {P : List Val → Hv → Prop} (I : List Val → List Val → Hv → Prop) {l : Loc}
    (step : ∀ x r acc h, I (x :: r) acc h → srcOk s h ∧ tok (t x l h) fun l1 h1 => ok (c l1 h1) fun b h2 => if b then ok (e l1 h2) fun v h3 => I r (acc ++ [v]) h3 else I r acc h2)
    (done : ∀ acc h, I [] acc h → srcOk s h ∧ P acc h) : ∀ (items acc : List Val) (h : Hv), I items acc h → ok (lcL t c e s items acc l h) P
  | [], acc, h, i => by
    obtain ⟨a, q⟩ := done acc h i
    simp only [lcL, if_pos a, ok_ok]
    exact q
  | x :: r, acc, h, i => by
    obtain ⟨a, q⟩ := step x r acc h i
    simp only [lcL, if_pos a]
    cases et : t x l h with
    | ok l1 h1 =>
      rw [et] at q
      simp only [tok_ok] at q
      dsimp only
      cases ec : c l1 h1 with
      | ok b h2 =>
        rw [ec] at q
        simp only [ok_ok] at q
        dsimp only
        cases b with
        | true =>
          simp only [if_true] at q ⊢
          cases ee : e l1 h2 with
          | ok v h3 =>
            rw [ee] at q
            exact lcL_inv I step done r (acc ++ [v]) h3 q
          | exc x1 h3 => rw [ee] at q; exact q.elim
          | fail => rw [ee] at q; exact q.elim
        | false => exact lcL_inv I step done r acc h2 (by simpa using q)
      | exc x1 h2 => rw [ec] at q; exact q.elim
      | fail => rw [ec] at q; exact q.elim
    | exc x1 l1 h1 => rw [et] at q; exact q.elim
    | fail => rw [et] at q; exact q.elim
@[simp] theorem ok_dLc {fin : List Val → Hv → Res Val} {vs : List Nat} {di : DenG Src} {t : Tg} {c : DenG Bool} {e : Den} {l : Loc} {h : Hv} {P : Val → Hv → Prop} :
    ok (dLc fin vs di t c e l h) P = ok (di l h) fun s h1 => ok (lcL t c e s s.1 [] (wipeL l vs) h1) fun ys h2 => ok (fin ys h2) P := by
  simp only [dLc, ok_bind]
@[simp] theorem ok_frozen (ys : List Val) (h : Hv) (P : Val → Hv → Prop) : ok (frozen ys h) P = P (.lst ys) h := rfl
@[simp] theorem ok_ours (ys : List Val) (h : Hv) (P : Val → Hv → Prop) : ok (ours ys h) P = P (.ref h.length) (h ++ [.lst ys]) := rfl
/-- a comprehension that draws nothing: map and filter -/
theorem lc_pure {t : Tg} {c : DenG Bool} {e : Den} {s : Src} {l : Loc} {h : Hv} {P : List Val → Hv → Prop} (f : Val → Bool) (g : Val → Val) (hs : srcOk s h)
    (step : ∀ x ∈ s.1, tok (t x l h) fun l1 h1 => h1 = h ∧ c l1 h = .ok (f x) h ∧ (f x = true → e l1 h = .ok (g x) h)) (done : P ((s.1.filter f).map g) h) : ok (lcL t c e s s.1 [] l h) P := by
  have gen : ∀ (items acc : List Val), (∀ x ∈ items, x ∈ s.1) → ok (lcL t c e s items acc l h) fun ys h2 => h2 = h ∧ ys = acc ++ (items.filter f).map g := by
    intro items
    induction items with
    | nil => intro acc _; simp only [lcL, if_pos hs, ok_ok]; simp
    | cons x r ih =>
      intro acc hm
      have q := step x (hm x (List.mem_cons_self ..))
      simp only [lcL, if_pos hs]
      cases et : t x l h with
      | ok l1 h1 =>
        rw [et] at q
        obtain ⟨rfl, q1, q2⟩ := q
        dsimp only
        rw [q1]
        dsimp only
        cases ef : f x with
        | true =>
          simp only [if_true]
          rw [q2 ef]
          dsimp only
          refine ok_imp (ih (acc ++ [g x]) fun y hy => hm y (List.mem_cons_of_mem _ hy)) fun v h2 z => ⟨z.1, ?_⟩
          rw [z.2]; simp [ef]
        | false =>
          refine ok_imp (ih acc fun y hy => hm y (List.mem_cons_of_mem _ hy)) fun v h2 z => ⟨z.1, ?_⟩
          rw [z.2]; simp [ef]
      | exc x1 l1 h1 => rw [et] at q; exact q.elim
      | fail => rw [et] at q; exact q.elim
  refine ok_imp (gen s.1 [] fun x hx => hx) fun v h2 z => ?_
  obtain ⟨rfl, rfl⟩ := z
  simpa using done

/-! ### tidy -/
theorem frzs_self {f : Nat → Option Val} : ∀ {v : Val}, okV v = true → frz f v = some v := by
  intro v
  exact Val.rec (motive_1 := fun v => okV v = true → frz f v = some v) (motive_2 := fun l => okVs l = true → frzs f l = some l)
    (fun _ => rfl) (fun _ _ => rfl) (fun _ _ => rfl) (fun _ _ => rfl)
    (fun l ih o => by simp only [okV] at o; simp only [frz, ih o, Option.map_some])
    (fun l ih o => by simp only [okV] at o; simp only [frz, ih o, Option.map_some])
    (fun l ih o => by simp only [okV] at o; simp only [frz, ih o, Option.map_some])
    (fun i o => by cases o)
    (fun _ => rfl) (fun v l i1 i2 o => by
      simp only [okVs, Bool.and_eq_true] at o
      simp only [frzs, i1 o.1, i2 o.2, Option.bind_some, Option.map_some]) v
theorem frzs_list {f : Nat → Option Val} : ∀ {l : List Val}, okVs l = true → frzs f l = some l
  | [], _ => rfl
  | v :: l, o => by
    simp only [okVs, Bool.and_eq_true] at o
    simp only [frzs, frzs_self o.1, frzs_list o.2, Option.bind_some, Option.map_some]
theorem kept_app (h g : Hv) : kept h.length h (h ++ g) := ⟨by simp, fun i hi => .inl (List.getElem?_append_left hi)⟩
theorem tidy_app {r : Res Val} {h : Hv} {P : Val → Hv → Prop} (k : ok r fun v h' => (∃ g, h' = h ++ g) ∧ okV v = true ∧ P v h) : ok (tidy r h) P := by
  obtain ⟨v, h', rfl, ⟨g, rfl⟩, o, p⟩ := ok_eq k
  unfold tidy
  dsimp only
  rw [if_pos (kept_app h g), frzs_self o]
  simpa using p
theorem tidy_lst {r : Res Val} {h : Hv} {P : Val → Hv → Prop} (k : ok r fun v h' => ∃ g i l, h' = h ++ g ∧ v = .ref i ∧ h.length ≤ i ∧ h'[i]? = some (.lst l) ∧ okVs l = true ∧ P (.lst l) h) : ok (tidy r h) P := by
  obtain ⟨v, h', rfl, g, i, l, rfl, rfl, hi, hl, o, p⟩ := ok_eq k
  unfold tidy
  dsimp only
  rw [if_pos (kept_app h g)]
  have : frz (frzN (h ++ g) h.length (h ++ g).length) (.ref i) = some (.lst l) := by
    have hn : (h ++ g).length = ((h ++ g).length - 1) + 1 := by
      have := (List.getElem?_eq_some_iff.mp hl).1
      omega
    rw [hn]
    simp only [frz, frzN]
    rw [if_neg (by omega), hl]
    simp only [frzs_list o, Option.map_some]
  rw [this]
  simpa using p
end GH
set_option Elab.async false
set_option linter.all false
set_option maxRecDepth 100000
set_option maxHeartbeats 1000000
set_option autoImplicit false
/-! Values compared; the tape. -/
namespace GH
open PySem
variable [TheWorld]
theorem nrfl {α : Type} {a b : α} (h : a = b) : a = b := h
abbrev sv (s : List Nat) : Val := .str s
/-- a tuple of ints -/
abbrev pv (p : List Int) : Val := .tup (p.map .int)
theorem okVs_ints (p : List Int) : okVs (p.map .int) = true := by
  induction p with
  | nil => rfl
  | cons a p ih => simp only [List.map_cons, okVs, okV, ih, Bool.and_self]
theorem dpVs_ints (p : List Int) : dpVs (p.map .int) = 0 := by
  induction p with
  | nil => rfl
  | cons a p ih => simp only [List.map_cons, dpVs, dpV, ih]; rfl
@[simp] theorem okV_pv (p : List Int) : okV (pv p) = true := by simp only [okV, okVs_ints]
@[simp] theorem dpV_pv (p : List Int) : dpV (pv p) = 1 := by simp only [dpV, dpVs_ints]
theorem eqv_ints : ∀ p q : List Int, PyData.eqvAll (pds (p.map .int)) (pds (q.map .int)) = decide (p = q)
  | [], [] => rfl
  | [], _ :: _ => rfl
  | _ :: _, [] => rfl
  | a :: p, b :: q => by
    simp only [List.map_cons, pds, pd, PyData.eqvAll, PyData.eqv, eqv_ints p q]
    by_cases h1 : a = b <;> by_cases h2 : p = q <;> simp [h1, h2]
@[simp] theorem veq_pv (p q : List Int) : veq (pv p) (pv q) = decide (p = q) := by
  simp only [veq, pd, PyData.eqv, eqv_ints]
@[simp] theorem veq_str (a b : List Nat) : veq (.str a) (.str b) = decide (a = b) := by
  simp only [veq, pd, PyData.eqv]
  by_cases h : a = b
  · subst h; simp
  · have : sOf a ≠ sOf b := fun e => h (sOf_inj e)
    simp [h, this]
@[simp] theorem veq_int (a b : Int) : veq (.int a) (.int b) = decide (a = b) := by
  simp only [veq, pd, PyData.eqv]
  by_cases h : a = b <;> simp [h]
@[simp] theorem veq_bl (a b : Bool) : veq (.bl a) (.bl b) = decide (a = b) := by
  simp only [veq, pd, PyData.eqv]
  cases a <;> cases b <;> rfl
theorem okVs_pvs (s : List (List Int)) : okVs (s.map pv) = true := by
  induction s with
  | nil => rfl
  | cons a p ih => simp only [List.map_cons, okVs, okV_pv, ih, Bool.and_self]
theorem dpVs_pvs (s : List (List Int)) : dpVs (s.map pv) ≤ 1 := by
  induction s with
  | nil => exact Nat.zero_le _
  | cons a p ih => simp only [List.map_cons, dpVs, dpV_pv]; omega
/-- a tuple, a list of tuples of ints -/
abbrev tv (s : List (List Int)) : Val := .tup (s.map pv)
theorem okVs_append {a b : List Val} : okVs (a ++ b) = (okVs a && okVs b) := by
  induction a with
  | nil => simp [okVs]
  | cons x a ih => simp only [List.cons_append, okVs, ih, Bool.and_assoc]
@[simp] theorem okV_tv (s : List (List Int)) : okV (tv s) = true := by simp only [okV, okVs_pvs]
theorem inSeq_pv (p : List Int) (s : List (List Int)) : inSeq (pv p) (s.map pv) = decide (p ∈ s) := by
  unfold inSeq
  induction s with
  | nil => rfl
  | cons a s ih =>
    simp only [List.map_cons, List.any_cons, ih, veq_pv]
    by_cases h1 : a = p <;> by_cases h2 : p ∈ s <;> simp [h1, h2, eq_comm]
    intro e; exact absurd e.symm h1
theorem inOk_pv (p : List Int) (s : List (List Int)) : inOk (pv p) (s.map pv) = true := by
  have := dpVs_pvs s
  simp only [inOk, okV_pv, okVs_pvs, Bool.and_self, Bool.true_and, decide_eq_true_eq]
  omega
@[simp] theorem vIn_pv (p : List Int) (s : List (List Int)) (h : Hv) : vIn (pv p) (tv s) h = .ok (.bl (decide (p ∈ s))) h := by
  simp only [vIn, isIn, seqOf, thaw, inOk_pv, if_true, inSeq_pv, Res.bind_ok]
@[simp] theorem vNotIn_pv (p : List Int) (s : List (List Int)) (h : Hv) : vNotIn (pv p) (tv s) h = .ok (.bl (!decide (p ∈ s))) h := by
  simp only [vNotIn, isIn, seqOf, thaw, inOk_pv, if_true, inSeq_pv, Res.bind_ok]
@[simp] theorem vEq_pv (p q : List Int) (h : Hv) : vEq (pv p) (pv q) h = .ok (.bl (decide (p = q))) h := by
  simp [vEq, thaw, eqOk]
@[simp] theorem vEq_str (a b : List Nat) (h : Hv) : vEq (.str a) (.str b) h = .ok (.bl (decide (a = b))) h := nrfl rfl
@[simp] theorem vEq_int (a b : Int) (h : Hv) : vEq (.int a) (.int b) h = .ok (.bl (decide (a = b))) h := nrfl rfl
@[simp] theorem vEq_bl (a b : Bool) (h : Hv) : vEq (.bl a) (.bl b) h = .ok (.bl (decide (a = b))) h := by
  simp [vEq, thaw, eqOk, okV, dpV]
@[simp] theorem vAdd_int (a b : Int) (h : Hv) : vAdd (.int a) (.int b) h = .ok (.int (a + b)) h := nrfl rfl
@[simp] theorem vSub_int (a b : Int) (h : Hv) : vSub (.int a) (.int b) h = .ok (.int (a - b)) h := nrfl rfl
@[simp] theorem vLt_int (a b : Int) (h : Hv) : vLt (.int a) (.int b) h = .ok (.bl (decide (a < b))) h := nrfl rfl
@[simp] theorem vGt_int (a b : Int) (h : Hv) : vGt (.int a) (.int b) h = .ok (.bl (decide (b < a))) h := nrfl rfl
@[simp] theorem vLe_int (a b : Int) (h : Hv) : vLe (.int a) (.int b) h = .ok (.bl (decide (a ≤ b))) h := nrfl rfl
@[simp] theorem vGe_int (a b : Int) (h : Hv) : vGe (.int a) (.int b) h = .ok (.bl (decide (b ≤ a))) h := nrfl rfl
@[simp] theorem vInt_int (a : Int) (h : Hv) : vInt (.int a) h = .ok (.int a) h := nrfl rfl
@[simp] theorem vAbs_int (a : Int) (h : Hv) : vAbs (.int a) h = .ok (.int (if a < 0 then -a else a)) h := nrfl rfl
@[simp] theorem vLen_tup (l : List Val) (h : Hv) : vLen (.tup l) h = .ok (.int l.length) h := nrfl rfl
@[simp] theorem vLen_lst (l : List Val) (h : Hv) : vLen (.lst l) h = .ok (.int l.length) h := nrfl rfl
@[simp] theorem vIter_lst (l : List Val) (h : Hv) : vIter (.lst l) h = .ok (l, none) h := nrfl rfl
@[simp] theorem vIter_tup (l : List Val) (h : Hv) : vIter (.tup l) h = .ok (l, none) h := nrfl rfl
@[simp] theorem vIter_fz (l : List Val) (h : Hv) : vIter (.fz l) h = .ok (l, none) h := nrfl rfl
@[simp] theorem srcOk_none (l : List Val) (h : Hv) : srcOk (l, none) h := trivial
theorem vMod_ok {a b : Int} (h : Hv) (hb : 0 < b) : vMod (.int a) (.int b) h = .ok (.int (a % b)) h := by simp [vMod, hb]
theorem vDiv_ok {a b : Int} (h : Hv) (hb : 0 < b) (h2 : b < 1073741824) : vDiv (.int a) (.int b) h = .ok (.int (a / b)) h := by simp [vDiv, hb, h2]
theorem vIx_tup {l : List Val} {i : Int} {v : Val} {h : Hv} (e : nth l i = some v) : vIx (.tup l) (.int i) h = .ok v h := by simp [vIx, seqOf, e]
theorem vIx_lst {l : List Val} {i : Int} {v : Val} {h : Hv} (e : nth l i = some v) : vIx (.lst l) (.int i) h = .ok v h := by simp [vIx, seqOf, lstOf, e]
theorem vIx_dic {i : Nat} {d : List (Val × Val)} {s : List Nat} {v : Val} {h : Hv} (e : h[i]? = some (.dic d)) (g : dGet d (.str s) = some v) : vIx (.ref i) (.str s) h = .ok v h := by
  simp [vIx, seqOf, lstOf, dicOf, e, keyOf, g]
theorem nth_of {α : Type} {l : List α} {i : Int} (h0 : 0 ≤ i) (h1 : i < l.length) : ∃ v, nth l i = some v ∧ v ∈ l := by
  have hi : i.toNat < l.length := by omega
  exact ⟨l[i.toNat], by simp [nth, h0, hi], List.getElem_mem hi⟩

/-! ### the tape -/
structure Tape where
  cells : List Int
  at_ : Int
  left : Int
  seed : Int
  salt : Int
def kCells : List Nat := [99, 101, 108, 108, 115]
def Tape.dic (t : Tape) : List (Val × Val) := [(.str [99, 101, 108, 108, 115], .lst (t.cells.map .int)), (.str [97, 116], .int t.at_), (.str [108, 101, 102, 116], .int t.left), (.str [115, 101, 101, 100], .int t.seed), (.str [115, 97, 108, 116], .int t.salt)]
/-- a tape as an object -/
def TapeOb (o : Ob) : Prop := ∃ t : Tape, 0 ≤ t.at_ ∧ o = .dic t.dic
noncomputable def bTake : Stm := (sSeq (sIf (dAnd (dB (dBin vEq (dBin vIx (dVar 0) (dC (.str [108, 101, 102, 116]))) (dC (.int 0)))) (dB (dBin vLt (dBin vIx (dVar 0) (dC (.str [97, 116]))) (dLen (dBin vIx (dVar 0) (dC (.str [99, 101, 108, 108, 115]))))))) (sSeq (sAsg (dBin vIx (dBin vIx (dVar 0) (dC (.str [99, 101, 108, 108, 115]))) (dBin vIx (dVar 0) (dC (.str [97, 116])))) (gSub (dVar 0) (dC (.str [108, 101, 102, 116]))))
    (sSeq (sAsg (dBin vAdd (dBin vIx (dVar 0) (dC (.str [97, 116]))) (dC (.int 1))) (gSub (dVar 0) (dC (.str [97, 116]))))
    sNext)) sNext)
    (sSeq (sIf (dB (dBin vGt (dBin vIx (dVar 0) (dC (.str [108, 101, 102, 116]))) (dC (.int 0)))) (sSeq (sAsg (dBin vMod (dFn vInt (dBin vIx (dVar 0) (dC (.str [108, 101, 102, 116])))) (dVar 1)) (gName 3))
    (sSeq (sAsg (dBin vDiv (dBin vIx (dVar 0) (dC (.str [108, 101, 102, 116]))) (dVar 1)) (gSub (dVar 0) (dC (.str [108, 101, 102, 116]))))
    (sSeq (sRet (dVar 3))
    sNext))) sNext)
    (sSeq (sAsg (dBin vAdd (dBin vIx (dVar 0) (dC (.str [115, 97, 108, 116]))) (dC (.int 1))) (gSub (dVar 0) (dC (.str [115, 97, 108, 116]))))
    (sSeq (sAsg (dBin vMod (dFn vInt (dBin vAdd (dBin vMul (dBin vIx (dVar 0) (dC (.str [115, 101, 101, 100]))) (dC (.int 48271))) (dBin vMul (dBin vIx (dVar 0) (dC (.str [115, 97, 108, 116]))) (dC (.int 69621))))) (dC (.int 2147483647))) (gName 2))
    (sSeq (sAsg (dBin vMod (dFn vInt (dBin vAdd (dBin vAdd (dBin vMul (dVar 2) (dVar 2)) (dBin vMul (dBin vIx (dVar 0) (dC (.str [115, 97, 108, 116]))) (dC (.int 40692)))) (dC (.int 12345)))) (dC (.int 2147483399))) (gName 2))
    (sSeq (sRet (dBin vMod (dFn vInt (dVar 2)) (dVar 1)))
    sNext))))))
noncomputable def bTape : Stm := (sSeq (sAsg (dLc frozen [3] (iSeq (dVar 0)) (gName 3) dYes (dFn vAbs (dFn vInt (dVar 3)))) (gName 1))
    (sSeq (sAsg (dC (.int 7)) (gName 2))
    (sSeq (sFor (iSeq (dVar 1)) (gName 3) (sSeq (sAsg (dBin vMod (dFn vInt (dBin vAdd (dBin vMul (dVar 2) (dC (.int 31))) (dVar 3))) (dC (.int 2147483647))) (gName 2))
    sNext))
    (sSeq (sRet (dDisp (((dC (.str [99, 101, 108, 108, 115])), (dVar 1)) :: (((dC (.str [97, 116])), (dC (.int 0))) :: (((dC (.str [108, 101, 102, 116])), (dC (.int 0))) :: (((dC (.str [115, 101, 101, 100])), (dVar 2)) :: (((dC (.str [115, 97, 108, 116])), (dC (.int 0))) :: [])))))))
    sNext))))
section
variable (t : Tape) (g : Hv)
@[simp] theorem tp_cells : vIx (.ref 0) (.str [99, 101, 108, 108, 115]) (.dic t.dic :: g) = .ok (.lst (t.cells.map .int)) (.dic t.dic :: g) := nrfl rfl
@[simp] theorem tp_at : vIx (.ref 0) (.str [97, 116]) (.dic t.dic :: g) = .ok (.int t.at_) (.dic t.dic :: g) := nrfl rfl
@[simp] theorem tp_left : vIx (.ref 0) (.str [108, 101, 102, 116]) (.dic t.dic :: g) = .ok (.int t.left) (.dic t.dic :: g) := nrfl rfl
@[simp] theorem tp_seed : vIx (.ref 0) (.str [115, 101, 101, 100]) (.dic t.dic :: g) = .ok (.int t.seed) (.dic t.dic :: g) := nrfl rfl
@[simp] theorem tp_salt : vIx (.ref 0) (.str [115, 97, 108, 116]) (.dic t.dic :: g) = .ok (.int t.salt) (.dic t.dic :: g) := nrfl rfl
@[simp] theorem ts_at (i : Int) : vSet (.ref 0) (.str [97, 116]) (.int i) (.dic t.dic :: g) = some (.dic { t with at_ := i }.dic :: g) := nrfl rfl
@[simp] theorem ts_left (i : Int) : vSet (.ref 0) (.str [108, 101, 102, 116]) (.int i) (.dic t.dic :: g) = some (.dic { t with left := i }.dic :: g) := nrfl rfl
@[simp] theorem ts_salt (i : Int) : vSet (.ref 0) (.str [115, 97, 108, 116]) (.int i) (.dic t.dic :: g) = some (.dic { t with salt := i }.dic :: g) := nrfl rfl
end
theorem big_of {a : Int} (h1 : -18446744073709551616 < a) (h2 : a < 18446744073709551616) : big64 a = true := by
  unfold big64
  have e : (2 : Int) ^ 64 = 18446744073709551616 := by decide
  rw [e]
  simp [h1, h2]
theorem big_mod (x : Int) : big64 (x % 2147483647) = true := by
  have q1 := Int.emod_nonneg x (show (2147483647 : Int) ≠ 0 by omega)
  have q2 := Int.emod_lt_of_pos x (show (0 : Int) < 2147483647 by omega)
  exact big_of (by omega) (by omega)
theorem big_a : big64 48271 = true := big_of (by omega) (by omega)
theorem big_b : big64 69621 = true := big_of (by omega) (by omega)
theorem big_c : big64 40692 = true := big_of (by omega) (by omega)
theorem big_d : big64 31 = true := big_of (by omega) (by omega)
theorem vMul_ok {a b : Int} (h : Hv) (hb : big64 a = true ∨ big64 b = true) : vMul (.int a) (.int b) h = .ok (.int (a * b)) h := by
  have : (big64 a || big64 b) = true := by simpa using hb
  simp [vMul, this]
theorem p1 : (0 : Int) < 2147483647 := by omega
theorem p2 : (0 : Int) < 2147483399 := by omega
theorem take_key {m : Int} {g : Hv} {P : Val → Hv → Prop} (hm : 0 < m) (hm2 : m < 1073741824) (k : ∀ r o', 0 ≤ r → r < m → TapeOb o' → P (.int r) (o' :: g)) (t : Tape) (ht : 0 ≤ t.at_) : sok ((sSeq (sIf (dB (dBin vGt (dBin vIx (dVar 0) (dC (.str [108, 101, 102, 116]))) (dC (.int 0)))) (sSeq (sAsg (dBin vMod (dFn vInt (dBin vIx (dVar 0) (dC (.str [108, 101, 102, 116])))) (dVar 1)) (gName 3))
    (sSeq (sAsg (dBin vDiv (dBin vIx (dVar 0) (dC (.str [108, 101, 102, 116]))) (dVar 1)) (gSub (dVar 0) (dC (.str [108, 101, 102, 116]))))
    (sSeq (sRet (dVar 3))
    sNext))) sNext)
    (sSeq (sAsg (dBin vAdd (dBin vIx (dVar 0) (dC (.str [115, 97, 108, 116]))) (dC (.int 1))) (gSub (dVar 0) (dC (.str [115, 97, 108, 116]))))
    (sSeq (sAsg (dBin vMod (dFn vInt (dBin vAdd (dBin vMul (dBin vIx (dVar 0) (dC (.str [115, 101, 101, 100]))) (dC (.int 48271))) (dBin vMul (dBin vIx (dVar 0) (dC (.str [115, 97, 108, 116]))) (dC (.int 69621))))) (dC (.int 2147483647))) (gName 2))
    (sSeq (sAsg (dBin vMod (dFn vInt (dBin vAdd (dBin vAdd (dBin vMul (dVar 2) (dVar 2)) (dBin vMul (dBin vIx (dVar 0) (dC (.str [115, 97, 108, 116]))) (dC (.int 40692)))) (dC (.int 12345)))) (dC (.int 2147483399))) (gName 2))
    (sSeq (sRet (dBin vMod (dFn vInt (dVar 2)) (dVar 1)))
    sNext))))) [some (.ref 0), some (.int m), none, none] (.dic t.dic :: g)) { nx := fun _ h => P .non h, rt := P } := by
    by_cases hl : 0 < t.left
    · simp [dVar]
      simp [hl, dVar, vMod_ok _ hm, vDiv_ok _ hm hm2]
      exact k _ _ (Int.emod_nonneg _ (by omega)) (Int.emod_lt_of_pos _ hm) ⟨_, by exact ht, rfl⟩
    · refine sok_seq (fun l h => l = [some (.ref 0), some (.int m), none, none] ∧ h = .dic t.dic :: g) (by simp [hl, dVar]) ?_
      rintro l h ⟨rfl, rfl⟩
      refine sok_seq (fun l h => l = [some (.ref 0), some (.int m), none, none] ∧ ∃ t' : Tape, 0 ≤ t'.at_ ∧ h = .dic t'.dic :: g) (by simp [dVar]; exact ⟨_, by exact ht, rfl⟩) ?_
      rintro l h ⟨rfl, t, ht, rfl⟩
      refine sok_seq (fun l h => (∃ x, big64 x = true ∧ l = [some (.ref 0), some (.int m), some (.int x), none]) ∧ h = .dic t.dic :: g) ?_ ?_
      · simp [dVar, vMul_ok _ (.inr big_a), vMul_ok _ (.inr big_b), vMod_ok _ p1]
        exact big_mod _
      rintro l h ⟨⟨x, hx, rfl⟩, rfl⟩
      refine sok_seq (fun l h => (∃ x, l = [some (.ref 0), some (.int m), some (.int x), none]) ∧ h = .dic t.dic :: g) ?_ ?_
      · simp [dVar, vMul_ok _ (.inl hx), vMul_ok _ (.inr big_c), vMod_ok _ p2]
      rintro l h ⟨⟨x, rfl⟩, rfl⟩
      simp [dVar, vMod_ok _ hm]
      exact k _ _ (Int.emod_nonneg _ (by omega)) (Int.emod_lt_of_pos _ hm) ⟨_, by exact ht, rfl⟩
theorem take_sp {m : Int} {o : Ob} {g : Hv} {P : Val → Hv → Prop} (hm : 0 < m) (hm2 : m < 1073741824) (ho : TapeOb o)
    (k : ∀ r o', 0 ≤ r → r < m → TapeOb o' → P (.int r) (o' :: g)) : ok (runDef 4 bTake [.ref 0, .int m] (o :: g)) P := by
  obtain ⟨t, ht, rfl⟩ := ho
  rw [ok_run]
  refine sok_seq (fun l h => l = [some (.ref 0), some (.int m), none, none] ∧ ∃ t' : Tape, 0 ≤ t'.at_ ∧ h = .dic t'.dic :: g) ?_ (fun l h ⟨e1, t', h1, e2⟩ => by subst e1 e2; exact take_key hm hm2 k t' h1)
  simp [dVar]
  by_cases hc : t.left = 0
  · by_cases h2 : t.at_ < t.cells.length
    · obtain ⟨v, e1, e2⟩ := nth_of (l := t.cells.map Val.int) ht (by simpa using h2)
      obtain ⟨c, hc', rfl⟩ := List.mem_map.mp e2
      simp [hc, h2, dVar, vIx_lst e1]
      exact ⟨{ t with left := c, at_ := t.at_ + 1 }, by show 0 ≤ t.at_ + 1; omega, rfl⟩
    · simp [hc, h2, dVar]
      exact ⟨t, ht, rfl⟩
  · simp [hc, dVar]
    exact ⟨t, ht, rfl⟩
theorem tape_sp {ns : List Int} {h : Hv} {P : Val → Hv → Prop} (k : ∀ o, TapeOb o → P (.ref h.length) (h ++ [o])) : ok (runDef 4 bTape [.fz (ns.map .int)] h) P := by
  simp only [ok_run, bTape, e_seq, sok_then]
  simp only [List.map_cons, List.map_nil, List.length_cons, List.length_nil, List.cons_append, List.nil_append, List.replicate]
  simp [dVar]
  refine lc_pure (fun _ => true) (fun v => match v with | .int i => .int (if i < 0 then -i else i) | v => v) trivial ?_ ?_
  · intro x hx
    obtain ⟨i, hi, rfl⟩ := List.mem_map.mp hx
    simp [wipeL, dVar]
  · have e : ∀ ns : List Int, (List.filter (fun _ => true) (ns.map Val.int)).map (fun v => match v with | .int i => .int (if i < 0 then -i else i) | v => v) = (ns.map fun i => if i < 0 then -i else i).map Val.int := by
      intro ns
      induction ns with
      | nil => rfl
      | cons n ns ih => simp only [List.map_cons, List.filter_cons, if_true] at ih ⊢; rw [ih]
    rw [e]
    refine forL_inv (fun items l h1 => h1 = h ∧ (∃ x y, l = [some (.fz (ns.map .int)), some (.lst ((ns.map fun i => if i < 0 then -i else i).map Val.int)), some (.int x), y]) ∧ ∀ z ∈ items, ∃ i, z = Val.int i) ?_ ?_ _ _ _ ?_
    · rintro x r l h1 ⟨rfl, ⟨s, y, rfl⟩, hz⟩
      obtain ⟨i, rfl⟩ := hz x (List.mem_cons_self ..)
      refine ⟨trivial, ?_⟩
      simp [dVar, vMul_ok _ (.inr big_d), vMod_ok _ p1]
      exact fun z hz' => hz z (List.mem_cons_of_mem _ hz')
    · rintro l h1 ⟨rfl, ⟨s, y, rfl⟩, _⟩
      refine ⟨trivial, ?_⟩
      simp [dDisp, dPairs, dVar, keyOf]
      exact k _ ⟨⟨ns.map fun i => if i < 0 then -i else i, 0, 0, s, 0⟩, Int.le_refl _, by simp [dMk, dPut, kEq, Tape.dic]⟩
    · exact ⟨rfl, ⟨7, none, rfl⟩, fun z hz => by obtain ⟨i, _, rfl⟩ := List.mem_map.mp hz; exact ⟨i, rfl⟩⟩
end GH
set_option Elab.async false
set_option linter.all false
set_option maxRecDepth 100000
set_option maxHeartbeats 1000000
set_option autoImplicit false
/-! Chained comparison; texts compared; more. -/
namespace GH
open PySem PySem.Spec PyProof.Rows L2
variable [TheWorld]
section
variable {X : Cx} {W : WX}
def dChain (f f' : Val → Val → Hv → Res Val) (da db dc : Den) : Den := fun l h => (da l h).bind fun v h1 => (db l h1).bind fun u h2 => (f v u h2).bind fun z h3 => match z with
  | .bl true => (dc l h3).bind fun w h4 => f' u w h4
  | .bl false => .ok (.bl false) h3
  | _ => .fail
theorem After.bind {α β γ δ : Type} {K : PySem.W.Frag} {W : WX} {rel : Gh → Hp → α → β → Prop} {rel2 : Gh → Hp → γ → δ → Prop} {σ : L2.St} {g : Gh} {H : Hp} {r : Res α} {k : α → Hv → Res γ} {Q : δ → Hp → Prop} {R : β → Hp → Prop} (A : After K W rel2 σ g H Q (r.bind k))
    (hk : ∀ v h1 g1 H1 x, Ext g H g1 H1 → HR K g1 H1 h1 → rel g1 H1 v x → After K W rel2 σ g1 H1 Q (k v h1) → R x H1) : After K W rel σ g H R r := by
  cases r with
  | ok v h1 => exact fun g' H' x E R' r => hk v h1 g' H' x E R' r (After.ext E A)
  | exc e h1 => exact A
  | fail => exact A
theorem tChain_of {f f' : Val → Val → Hv → Res Val} {da db dc : Den} {r r' : R2}
    (hr : ∀ (W : WX) (g : Gh) (H : Hp) (h : Hv) (σ : L2.St) (v u : Val) (x y : V) (Q : VK), HR X.K g H h → VR X.K g H v x → VR X.K g H u y → After X.K W (vr X.K) σ g H Q (f v u h) → r x y H Q)
    (hr' : ∀ (W : WX) (g : Gh) (H : Hp) (h : Hv) (σ : L2.St) (v u : Val) (x y : V) (Q : VK), HR X.K g H h → VR X.K g H v x → VR X.K g H u y → After X.K W (vr X.K) σ g H Q (f' v u h) → r' x y H Q)
    (σ : L2.St) (H : Hp) (Q : VK) (z : tG X.K W (vr X.K) (dChain f f' da db dc) σ H Q) : tChain r r' (tG X.K W (vr X.K) da) (tG X.K W (vr X.K) db) (tG X.K W (vr X.K) dc) σ H Q := by
  obtain ⟨g, l, h, S, R, A⟩ := z
  refine tG_of S R A fun v h1 g1 H1 x E S1 R1 r1 A1 => ?_
  refine tG_of S1 R1 A1 fun u h2 g2 H2 y E2 S2 R2 r2 A2 => ?_
  refine hr W g2 H2 h2 σ v u x y _ R2 (r1.ext R1 E2) r2 (After.bind A2 fun z h3 g3 H3 zx E3 R3 r3 A3 => ?_)
  cases z with
  | bl b =>
    have r3 : VR X.K g3 H3 (.bl b) zx := r3
    simp only [VR] at r3
    subst r3
    refine ⟨b, rfl, ?_⟩
    cases b with
    | false =>
      rw [if_neg Bool.false_ne_true]
      exact A3 g3 H3 _ Ext.refl R3 (by simp only [VR])
    | true =>
      rw [if_pos rfl]
      have S3 := S2.ext R2 E3
      refine tG_of S3 R3 A3 fun w h4 g4 H4 wx E4 S4 R4 r4 A4 => ?_
      exact hr' W g4 H4 h4 σ u w y wx Q R4 ((VR.ext R2 E3 r2).ext R3 E4) r4 A4
  | _ => exact A3.elim
theorem ge_chain {op op' : CmpOp} {f f' : Val → Val → Hv → Res Val} {a b c : Expr} {da db dc : Den} {pos : Pos} (ho : OpG X (compareOp op) f) (ho' : OpG X (compareOp op') f') (ha : GE X W a da) (hb : GE X W b db) (hc : GE X W c dc)
    (hm : lastMarks [op, op'] [b, c] = false := by with_unfolding_all rfl) : GE X W (.Compare a [op, op'] [b, c] pos) (dChain f f' da db dc) := by
  obtain ⟨r, ho, hr⟩ := ho
  obtain ⟨r', ho', hr'⟩ := ho'
  exact PE.imp (pe_chain ho ho' ha hb hc hm) fun σ H Q z => tChain_of hr hr' σ H Q z
theorem gt_chain {op op' : CmpOp} {f f' : Val → Val → Hv → Res Val} {a b c : Expr} {da db dc : Den} {pos : Pos} (ho : OpG X (compareOp op) f) (ho' : OpG X (compareOp op') f') (ha : GE X W a da) (hb : GE X W b db) (hc : GE X W c dc)
    (hm : lastMarks [op, op'] [b, c] = false := by with_unfolding_all rfl) : GT X W (.Compare a [op, op'] [b, c] pos) (dB (dChain f f' da db dc)) := by
  obtain ⟨r, ho, hr⟩ := ho
  obtain ⟨r', ho', hr'⟩ := ho'
  exact PT.imp (pt_chain ho ho' ha hb hc hm) fun σ H Q z => tChain_of (W := W) hr hr' σ H _ (tB_of z)
/-! texts -/
def vCmpS (p : Int → Int → Bool) (q : List Nat → List Nat → Bool) (v u : Val) (h : Hv) : Res Val := match v, u with
  | .int i, .int j => .ok (.bl (p i j)) h
  | .str a, .str b => .ok (.bl (q a b)) h
  | _, _ => .fail
theorem og_cmpS {op : CmpOp} {p : Int → Int → Bool} {q : List Nat → List Nat → Bool} (ho : OpR X (compareOp op) (rI0 fun i j => .bl (p i j))) {F : Str → Str → Bool} (hs : OpR X (compareOp op) (fun x y H Q => ∃ i j, x = .str i ∧ y = .str j ∧ Q (.bl (F i j)) H)) (hF : ∀ a b, F (sOf a) (sOf b) = q a b) :
    OpG X (compareOp op) (vCmpS p q) := by
  refine ⟨_, ho.or hs, fun W g H h σ v u x y Q R rv ru A => ?_⟩
  unfold vCmpS at A
  split at A
  · simp only [VR] at rv ru
    subst rv ru
    exact .inl ⟨_, _, rfl, rfl, A g H _ Ext.refl R (by simp only [VR])⟩
  · simp only [VR] at rv ru
    subst rv ru
    exact .inr ⟨_, _, rfl, rfl, A g H _ Ext.refl R (by simp only [VR]; rw [hF])⟩
  · exact A.elim
abbrev vLtS := vCmpS (fun i j => decide (i < j)) fun a b => decide (a < b)
abbrev vLeS := vCmpS (fun i j => decide (i ≤ j)) fun a b => !decide (b < a)
abbrev vGtS := vCmpS (fun i j => decide (j < i)) fun a b => decide (b < a)
abbrev vGeS := vCmpS (fun i j => decide (j ≤ i)) fun a b => !decide (a < b)
theorem og_ltS : OpG X (compareOp .Lt) vLtS := og_cmpS op_lt op_lt_str fun a b => decide_eq_decide.mpr Iff.rfl
theorem og_leS : OpG X (compareOp .LtE) vLeS := og_cmpS op_le op_le_str fun a b => congrArg (!·) (decide_eq_decide.mpr Iff.rfl)
theorem og_gtS : OpG X (compareOp .Gt) vGtS := og_cmpS op_gt op_gt_str fun a b => decide_eq_decide.mpr Iff.rfl
theorem og_geS : OpG X (compareOp .GtE) vGeS := og_cmpS op_ge op_ge_str fun a b => congrArg (!·) (decide_eq_decide.mpr Iff.rfl)
/-- an int of the top -/
theorem ge_topi {x : Str} {i : Int} {pos : Pos} (hm : ∃ t, X.mg x = some (.int i t)) (hg : Gl X x := by rfl) (hd : (x == ("__debug__" : Str)) = false := by decide +kernel) : GE X W (.Name x pos) (dC (.int i)) := by
  obtain ⟨t, hm⟩ := hm
  exact ge_top (y := .int i) hm ⟨t, rfl⟩ (fun g H => by simp only [VR]) hg hd
/-- a text of the top -/
theorem ge_tops {x z : Str} (s : List Nat) {pos : Pos} (hm : ∃ t, X.mg x = some (.str z t)) (e : z = sOf s := by decide +kernel) (hg : Gl X x := by rfl) (hd : (x == ("__debug__" : Str)) = false := by decide +kernel) : GE X W (.Name x pos) (dC (.str s)) := by
  obtain ⟨t, hm⟩ := hm
  subst e
  exact ge_top (y := .str (sOf s)) hm ⟨t, rfl⟩ (fun g H => by simp only [VR]) hg hd
end
end GH
set_option Elab.async false
set_option linter.all false
set_option maxRecDepth 100000
set_option maxHeartbeats 1000000
set_option autoImplicit false
/-! Dict comprehensions. -/
namespace GH
open PySem PySem.Spec PyProof.Rows L2
variable [TheWorld]
open Classical in
noncomputable def dcL (t : Tg) (c : DenG Bool) (ek e : Den) (s : Src) : List Val → List (Val × Val) → Loc → Hv → Res (List (Val × Val))
  | [], acc, _, h => if srcOk s h then .ok acc h else .fail
  | x :: r, acc, l, h => if srcOk s h then (match t x l h with
    | .ok l1 h1 => (match c l1 h1 with
      | .ok b h2 => if b = true then (match ek l1 h2 with
        | .ok k h3 => (match e l1 h3 with
          | .ok v h4 => (match keyOf k with
            | some _ => dcL t c ek e s r (dPut acc k v) l h4
            | none => .fail)
          | _ => .fail)
        | _ => .fail) else dcL t c ek e s r acc l h2
      | _ => .fail)
    | _ => .fail) else .fail
def finD (ys : List (Val × Val)) (h : Hv) : Res Val := .ok (.ref h.length) (h ++ [.dic ys])
noncomputable def dDc (vs : List Nat) (di : DenG Src) (t : Tg) (c : DenG Bool) (ek e : Den) : Den := fun l h => (di l h).bind fun s h1 => (dcL t c ek e s s.1 [] (wipeL l vs) h1).bind finD
section
variable {K : PySem.W.Frag}
theorem upd_self' {H : Hp} {D : Addr} {o : HO} (e : H D = some o) : upd H D o = H := by
  funext b
  by_cases hb : b = D
  · subst hb; rw [upd_same, e]
  · rw [upd_ne hb]
theorem finD_ok {W : WX} {σ : L2.St} {g1 g2 : Gh} {H1 H : Hp} {h h1 : Hv} {Q : VK} {D : Addr} {ys : List (Val × Val)} {xs : List (Key × V)} (nD : H1 D = none) (R1 : HR K g1 H1 h1) (E : Ext ⟨g1.m, D :: g1.r⟩ (upd H1 D (.dK [])) g2 (upd H D (.dK []))) (R2 : HR K g2 H h) (eD : H D = some (.dK xs)) (r : DR K g2 H ys xs)
    (A : After K W (vr K) σ g1 H1 Q (.ok (.ref h.length) (h ++ [.dic ys]))) : Q (.ref D) H := by
  have hD : D ∈ g2.r := by rw [E.r]; exact List.mem_cons_self ..
  have R3 := R2.reset (zs := .dK []) hD eD trivial trivial
  have q := promote (o1 := .dK xs) (ob := .dic ys) R1 nD E R3 trivial (fun hm ho => by
    refine ⟨xs, upd_same, r.1, ?_⟩
    have := r.2.own hm ho
    rw [upd_upd, upd_self' eD]
    exact this) A
  rw [upd_upd, upd_self' eD] at q
  exact q
theorem dc_red {W : WX} {vs : List Nat} {di : DenG Src} {t : Tg} {c : DenG Bool} {ek e : Den} {σ : L2.St} {H : Hp} {Q : VK} (z : tG K W (vr K) (dDc vs di t c ek e) σ H Q) :
    tDc (tI K W di) (tTc K vs t) (tG K W0 br c) (tG K W0 (vr K) ek) (tG K W0 (vr K) e) vs σ H Q := by
  obtain ⟨g, l, h, S, R, A⟩ := z
  refine ⟨g, l, h, S, R, ?_⟩
  unfold dDc at A
  unfold AfterI
  cases ed : di l h with
  | exc x h1 => rw [ed] at A; exact A
  | fail => rw [ed] at A; exact A
  | ok s h1 =>
    rw [ed] at A
    simp only [Res.bind_ok] at A
    have ok1 : srcOk s h1 := by
      cases hs1 : s.1 with
      | nil =>
        rw [hs1] at A
        simp only [dcL] at A
        split at A
        · assumption
        · exact A.elim
      | cons x r =>
        rw [hs1] at A
        simp only [dcL] at A
        split at A
        · assumption
        · exact A.elim
    refine ⟨ok1, fun g1 H1 J E1 R1 hz sv D nD => ?_⟩
    have A := After.ext E1 A
    have al : ∀ b ∈ g1.r, ∃ o, H1 b = some o := fun b hb => R1.own_there (.inr hb)
    have S1 := S.ext R E1
    -- the new list is put aside
    have ES : ExtS g1 H1 ⟨g1.m, D :: g1.r⟩ (upd H1 D (.dK [])) := ⟨⟨[], by simp, by simp⟩, ⟨[D], rfl, fun b hb => by rw [List.mem_singleton.mp hb]; exact fre_none nD⟩, fun b o e _ hb => by rw [upd_ne (ne_of_none e nD)]; exact e⟩
    have RD : HR K ⟨g1.m, D :: g1.r⟩ (upd H1 D (.dK [])) h1 := by
      refine ⟨R1.len, R1.nd, fun a ha z => ?_, fun a ha => ?_, fun i o a e1 e2 => ?_⟩
      · rcases List.mem_cons.mp z with z | z
        · subst z; exact R1.fresh nD (.inl ha)
        · exact R1.dis a ha z
      · rcases List.mem_cons.mp ha with z | z
        · subst z; exact ⟨_, upd_same, trivial⟩
        · obtain ⟨ob, e, mo⟩ := R1.al a z
          exact ⟨ob, by rw [upd_ne (ne_of_none e nD)]; exact e, mo⟩
      · have q := R1.obj i o a e1 e2
        cases o with
        | lst l => obtain ⟨xs, e, r⟩ := q; exact ⟨xs, by rw [upd_ne (ne_of_none e nD)]; exact e, r.extS R1 ES⟩
        | dic l => obtain ⟨xs, e, r⟩ := q; exact ⟨xs, by rw [upd_ne (ne_of_none e nD)]; exact e, r.1, r.2.extS R1 ES⟩
        | ins c f => obtain ⟨dx, gs, e, r⟩ := q; exact ⟨dx, gs, by rw [upd_ne (ne_of_none e nD)]; exact e, r.1, r.2.extS R1 ES⟩
        | dn l => obtain ⟨xs, ys, e, p, r1, r2⟩ := q; exact ⟨xs, ys, by rw [upd_ne (ne_of_none e nD)]; exact e, p, r1.extS R1 ES, r2.extS R1 ES⟩
        | tbl t => exact ⟨q.1, q.2.stay (fun ps e => by rw [upd_ne (ne_of_none e nD)]; exact e) (fun c o e nt hn => ⟨by rw [upd_ne (ne_of_none e nD)]; exact e, ES.nown hn e nt⟩)⟩
    let Wd : Nat → Hp → Prop := fun i H => ∃ g2 h2 ys xs, H D = some (.dK xs) ∧ Ext ⟨g1.m, D :: g1.r⟩ (upd H1 D (.dK [])) g2 (upd H D (.dK [])) ∧ HR K g2 H h2 ∧ DR K g2 H ys xs ∧ xs.length ≤ i ∧ i ≤ s.1.length ∧
      After K W (vr K) σ g1 H1 Q ((dcL t c ek e s (s.1.drop i) ys (wipeL l vs) h2).bind finD)
    refine ⟨fun i m H => m = s.1.length - i ∧ Wd i H, ⟨s.1.length, by simp, ⟨g1.m, D :: g1.r⟩, h1, [], [], upd_same, by rw [upd_upd]; exact Ext.refl, RD, DR.nil, by simp, Nat.zero_le _, by simpa using A⟩, ?_⟩
    rintro i m H ⟨rfl, g2, h2, ys, xs, eD, E, R2, r, hl, hil, A⟩
    have hDr : D ∈ g2.r := by rw [E.r]; exact List.mem_cons_self ..
    have hDm : D ∉ g2.m := fun z => R2.dis D z hDr
    obtain ⟨tm, em, nm⟩ := E.m
    have em : g2.m = g1.m ++ tm := em
    have nm : ∀ b ∈ tm, Fre H1 b := fun b hb => by
      have q := nm b hb
      have hne : b ≠ D := by
        rintro rfl
        obtain ⟨ps, z⟩ := q _ upd_same
        cases z
      intro o z
      exact q o (by rw [upd_ne hne]; exact z)
    have keep : ∀ b o, H1 b = some o → (∀ ps, o ≠ .tbl ps) → b ∉ g1.m → H b = some o := fun b o e nt hb => by
      have hne := ne_of_none e nD
      have q := E.keepN b o (by rw [upd_ne hne]; exact e) nt hb
      rw [upd_ne hne] at q
      exact q
    have E2S : ExtS g1 H1 g2 H := ⟨⟨tm, em, nm⟩, ⟨[D], E.r, fun b hb => by rw [List.mem_singleton.mp hb]; exact fre_none nD⟩, fun b o e nt hb => keep b o e nt fun z => hb (.inl z)⟩
    have E2 : Ext g1 H1 ⟨g2.m, g1.r⟩ H := ⟨⟨tm, em, nm⟩, rfl, keep, fun b o e nt => by
      have hne := ne_of_none e nD
      obtain ⟨o', q, nt'⟩ := E.there b o (by rw [upd_ne hne]; exact e) nt
      rw [upd_ne hne] at q
      exact ⟨o', q, nt'⟩⟩
    have S2 : SR K g2 H (wipeL l vs) (wipe σ vs) := (S1.extS R1 E2S).wipe vs
    cases hd : s.1.drop i with
    | nil =>
      have hle : s.1.length ≤ i := List.drop_eq_nil_iff.mp hd
      rw [hd] at A
      simp only [dcL] at A
      split at A
      · rename_i ok
        exact .inl ⟨(sv g2 H h2 E2S R2 ok i).2 (Nat.le_antisymm hil hle), finD_ok nD R1 E R2 eD r A⟩
      · exact A.elim
    | cons v rest =>
      have hlt : i < s.1.length := by
        by_cases q : i < s.1.length
        · exact q
        · rw [List.drop_eq_nil_iff.mpr (by omega)] at hd; cases hd
      have hv : s.1[i]? = some v := by
        have q := congrArg List.head? hd
        rw [List.head?_drop] at q
        simpa using q
      have hr : s.1.drop (i + 1) = rest := by
        have q := congrArg List.tail hd
        rw [List.tail_drop] at q
        simpa using q
      rw [hd] at A
      simp only [dcL] at A
      split at A
      · rename_i ok
        obtain ⟨go, yl⟩ := (sv g2 H h2 E2S R2 ok i).1 v hv
        refine .inr ⟨go, Wd (i + 1), fun H' q => ⟨s.1.length - (i + 1), by omega, rfl, q⟩, fun x H' y => ?_⟩
        obtain ⟨E3, R3, rx⟩ := yl x H' y
        refine ⟨g2, wipeL l vs, h2, v, S2.ext R2 E3, R3, rx, ?_⟩
        cases et : t v (wipeL l vs) h2 with
        | exc x l1 h1 => rw [et] at A; exact A
        | fail => rw [et] at A; exact A
        | ok l3 h3 =>
          rw [et] at A
          simp only at A
          intro g4 H4 σ4 E4 R4 S4 w4
          refine ⟨w4.trans (wipe_wipe fun _ hu => hu), g4, l3, h3, S4, R4, ?_⟩
          cases ec : c l3 h3 with
          | exc x h1 => rw [ec] at A; exact A.elim
          | fail => rw [ec] at A; exact A.elim
          | ok b h5 =>
            rw [ec] at A
            simp only at A
            intro g5 H5 b' E5 R5 eb
            obtain rfl : b = b' := eb
            have E25 := (E3.trans E4).trans E5
            have keepD : ∀ {g6 : Gh} {H6 : Hp}, Ext g2 H g6 H6 → H6 D = some (.dK xs) := fun E6 => E6.keep D _ eD hDm
            cases b with
            | false =>
              rw [if_neg Bool.false_ne_true] at A ⊢
              exact ⟨g5, h5, ys, xs, keepD E25, E.trans (E25.reset hDm eD), R5, ⟨r.1, r.2.ext R2 E25⟩, by omega, hlt, by rw [hr]; exact A⟩
            | true =>
              rw [if_pos rfl] at A ⊢
              refine ⟨g5, l3, h5, S4.ext R4 E5, R5, ?_⟩
              cases ek0 : ek l3 h5 with
              | exc x h1 => rw [ek0] at A; exact A.elim
              | fail => rw [ek0] at A; exact A.elim
              | ok ky h5k =>
                rw [ek0] at A
                simp only at A
                intro g5k H5k kx E5k R5k rk
                refine ⟨g5k, l3, h5k, (S4.ext R4 E5).ext R5 E5k, R5k, ?_⟩
                cases ee : e l3 h5k with
                | exc x h1 => rw [ee] at A; exact A.elim
                | fail => rw [ee] at A; exact A.elim
                | ok y h6 =>
                  rw [ee] at A
                  simp only at A
                  intro g6 H6 xv E6 R6 rv
                  split at A
                  · rename_i kk hkk
                    have E26 := (E25.trans E5k).trans E6
                    have hD6 : D ∈ g6.r := by rw [E26.r]; exact hDr
                    have k6 := keepD E26
                    have rk6 := VR.ext R5k E6 rk
                    have dr : DR K g6 H6 (dPut ys ky y) (putK xs kk xv) := DR.put ⟨r.1, r.2.ext R2 E26⟩ hkk rv
                    have hle := length_putK xs kk xv
                    refine ⟨xs, kk, key_V rk hkk, k6, by omega, g6, h6, dPut ys ky y, putK xs kk xv, upd_same, ?_, R6.reset hD6 k6 trivial trivial, ⟨dr.1, dr.2.reset hD6 k6 trivial⟩, by omega, hlt, by rw [hr]; exact A⟩
                    rw [upd_upd]
                    exact E.trans (E26.reset hDm eD)
                  · exact A.elim
      · exact A.elim
end
section
variable {X : Cx} {W : WX}
theorem ge_dc {kx vx tg iter : Expr} {ifs : List Expr} {scope : Scope} (own : List (Str × Nat)) {pos : Pos} {di : DenG Src} {t : Tg} {c : DenG Bool} {ek e : Den} (hc : X.calm = true) (hN : X.N.Nodup) (hi : GI X W tg iter di)
    (hg : ∀ (s : Shared) (H : Hp) (C : Addr) (cl : List (Str × Addr)) (fp : List Addr), GC (X.blk s H scope (compEnvC scope cl C X.env) fp) (own.map (·.2)) tg t) (ht : ∀ (s : Shared) (H : Hp) (C : Addr) (cl : List (Str × Addr)) (fp : List Addr), GTs (X.blk s H scope (compEnvC scope cl C X.env) fp) W0 ifs c)
    (hk : ∀ (s : Shared) (H : Hp) (C : Addr) (cl : List (Str × Addr)) (fp : List Addr), GE (X.blk s H scope (compEnvC scope cl C X.env) fp) W0 kx ek)
    (he : ∀ (s : Shared) (H : Hp) (C : Addr) (cl : List (Str × Addr)) (fp : List Addr), GE (X.blk s H scope (compEnvC scope cl C X.env) fp) W0 vx e) (ok : blkC X.N X.env.scope scope own = true := by first | rfl | decide +kernel) (hs : ∀ x, foldedSetIterable iter X.env x = pure x := by intro _; rfl) :
    GE X W (.DictComp kx vx [⟨tg, iter, ifs, 0⟩] scope pos) (dDc (own.map (·.2)) di t c ek e) :=
  PE.imp (pe_dc (g := tTc X.K (own.map fun p : Str × Nat => p.2) t) (tt := tG X.K W0 br c) (tk := tG X.K W0 (vr X.K) ek) (tv := tG X.K W0 (vr X.K) e) hc hN hi (blkOk_by ok) hg ht hk he hs) fun σ H Q z => dc_red z
end
end GH
set_option Elab.async false
set_option linter.all false
set_option maxRecDepth 100000
set_option maxHeartbeats 1000000
set_option autoImplicit false
/-! max, min, join. -/
namespace GH
open PySem PySem.Spec PyProof.Rows L2
variable [TheWorld]
section
variable {X : Cx} {W : WX}
def vMax (v : Val) (h : Hv) : Res Val := match lstOf h v with
  | some l => match intsOf l with
    | some ns => match ns.max? with
      | some m => .ok (.int m) h
      | none => .fail
    | none => .fail
  | none => .fail
def vMin (v : Val) (h : Hv) : Res Val := match lstOf h v with
  | some l => match intsOf l with
    | some ns => match ns.min? with
      | some m => .ok (.int m) h
      | none => .fail
    | none => .fail
  | none => .fail
theorem c1_max (hc : X.calm = true) : C1 X (.builtin "max") vMax := ⟨_, cr_max hc, fun W g H h σ v x Q R r A => by
  unfold vMax at A
  split at A
  · rename_i l hl
    split at A
    · rename_i ns hn
      split at A
      · rename_i m hm
        obtain ⟨a, xs, rfl, s, rs⟩ := lstOf_ok R r hl
        rw [intsOf_ok hn rs] at s
        refine ⟨a, ns, rfl, SqL.of s, ?_, fun m' h1 h2 => ?_⟩
        · cases ns with
          | nil => cases hm
          | cons => simp
        · have := List.max?_eq_some_iff.mpr ⟨h1, h2⟩
          rw [hm] at this
          cases this
          exact A g H _ Ext.refl R (by simp only [VR])
      · exact A.elim
    · exact A.elim
  · exact A.elim⟩
theorem c1_min (hc : X.calm = true) : C1 X (.builtin "min") vMin := ⟨_, cr_min hc, fun W g H h σ v x Q R r A => by
  unfold vMin at A
  split at A
  · rename_i l hl
    split at A
    · rename_i ns hn
      split at A
      · rename_i m hm
        obtain ⟨a, xs, rfl, s, rs⟩ := lstOf_ok R r hl
        rw [intsOf_ok hn rs] at s
        refine ⟨a, ns, rfl, SqL.of s, ?_, fun m' h1 h2 => ?_⟩
        · cases ns with
          | nil => cases hm
          | cons => simp
        · have := List.min?_eq_some_iff.mpr ⟨h1, h2⟩
          rw [hm] at this
          cases this
          exact A g H _ Ext.refl R (by simp only [VR])
      · exact A.elim
    · exact A.elim
  · exact A.elim⟩
/-! max(a, b), min(a, b) -/
def C2 (X : Cx) (f : Value) (d : Val → Val → Hv → Res Val) : Prop := ∃ r, CallR X f r ∧ ∀ (W : WX) (g : Gh) (H : Hp) (h : Hv) (σ : L2.St) (v u : Val) (x y : V) (Q : VK), HR X.K g H h → VR X.K g H v x → VR X.K g H u y → After X.K W (vr X.K) σ g H Q (d v u h) → r [x, y] H Q
theorem ge_b2 {id : String} {f : Val → Val → Hv → Res Val} {a b : Expr} {da db : Den} {x : Str} {p pos : Pos} (hf : C2 X (.builtin id) f) (ha : GE X W a da) (hb : GE X W b db) (hm : X.mg x = none) (hg : Gl X x := by rfl) (hv : bootBuiltins x = some (.builtin id) := by decide +kernel) (hn : x ≠ "__name__" := by decide +kernel) (hdb : (x == ("__debug__" : Str)) = false := by decide +kernel)
    (hs1 : starEach [a, b] X.env = (false, eval a X.env) :: starEach [b] X.env := by rfl) (hst : starEach [b] X.env = (false, eval b X.env) :: starEach [] X.env := by rfl) (hpl : (backTo pos (starEach [b] X.env)).any (·.1) = false := by rfl) : GE X W (.Call (.Name x p) [a, b] [] pos) (dBin f da db) := by
  obtain ⟨r, hc, hr⟩ := hf
  refine PE.imp (pe_callB hc hg hm hv (pa_cons ha (pa_cons hb pa_nil hst) hs1) hn hdb hs1 hpl) fun σ H Q ⟨g, l, h, S, R, A⟩ => ?_
  refine tG_of S R A fun v h1 g1 H1 x E S1 R1 r1 A1 => ?_
  refine tG_of S1 R1 A1 fun u h2 g2 H2 y E2 S2 R2 r2 A2 => ?_
  exact hr W g2 H2 h2 σ v u x y Q R2 (r1.ext R1 E2) r2 A2
def vMax2 (v u : Val) (h : Hv) : Res Val := match v, u with
  | .int i, .int j => .ok (.int (if j > i then j else i)) h
  | _, _ => .fail
def vMin2 (v u : Val) (h : Hv) : Res Val := match v, u with
  | .int i, .int j => .ok (.int (if j < i then j else i)) h
  | _, _ => .fail
theorem c2_max (hc : X.calm = true) : C2 X (.builtin "max") vMax2 := ⟨_, call_max2 hc, fun W g H h σ v u x y Q R rv ru A => by
  unfold vMax2 at A
  split at A
  · simp only [VR] at rv ru
    subst rv ru
    exact ⟨_, _, rfl, A g H _ Ext.refl R (by simp only [VR])⟩
  · exact A.elim⟩
theorem c2_min (hc : X.calm = true) : C2 X (.builtin "min") vMin2 := ⟨_, call_min2 hc, fun W g H h σ v u x y Q R rv ru A => by
  unfold vMin2 at A
  split at A
  · simp only [VR] at rv ru
    subst rv ru
    exact ⟨_, _, rfl, A g H _ Ext.refl R (by simp only [VR])⟩
  · exact A.elim⟩
/-! a text joins texts -/
def strsOf : List Val → Option (List (List Nat))
  | [] => some []
  | .str s :: l => (strsOf l).map (s :: ·)
  | _ :: _ => none
theorem strsOf_ok {K : PySem.W.Frag} {g : Gh} {H : Hp} : ∀ {l : List Val} {ns : List (List Nat)} {xs : List V}, strsOf l = some ns → VRs K g H l xs → xs = (ns.map sOf).map V.str
  | [], ns, xs, e, r => by
    simp only [strsOf, Option.some.injEq] at e
    subst e
    simpa [VRs] using r
  | v :: l, ns, xs, e, r => by
    simp only [VRs] at r
    obtain ⟨x, xs', rfl, r1, r2⟩ := r
    cases v with
    | str s =>
      simp only [strsOf, Option.map_eq_some_iff] at e
      obtain ⟨ns', e, rfl⟩ := e
      simp only [VR] at r1
      rw [r1, strsOf_ok e r2]; rfl
    | _ => simp [strsOf] at e
def isStr (h : Hv) : Val → Bool
  | .str _ => true
  | _ => false
def vJoin (x v : Val) (h : Hv) : Res Val := match x with
  | .str a => match seqOf h v with
    | some l => match strsOf l with
      | some ys => if (ys.map List.length).sum + ys.length * a.length ≤ 16777216 then .ok (.str (TL.joinL a ys)) h else .fail
      | none => .fail
    | none => .fail
  | _ => .fail
theorem str_ty {K : PySem.W.Frag} {g : Gh} {H : Hp} {h : Hv} {v : Val} {x : V} (r : VR K g H v x) (e : isStr h v = true) : tyV K "str" x H := by
  cases v with
  | str s =>
    simp only [VR] at r
    subst r
    exact rfl
  | _ => exact absurd e Bool.false_ne_true
theorem m1_join : M1R X "str" "str.join" isStr vJoin := ⟨fun g H h v x R r e => str_ty r e, _, mt_join, fun W g H h σ v u x y Q R rv ru A => by
  unfold vJoin at A
  split at A
  · rename_i a
    split at A
    · rename_i l hl
      split at A
      · rename_i ys hy
        split at A
        · rename_i hz
          simp only [VR] at rv
          subst rv
          obtain ⟨p, xs, rfl, s, rs⟩ := seqOf_ok R ru hl
          have e := strsOf_ok hy rs
          refine ⟨_, p, ys.map sOf, rfl, rfl, by rw [e] at s; exact s, ?_, ?_⟩
          · have : ((ys.map sOf).map (·.length)) = ys.map List.length := by simp [sOf_len]
            rw [this, List.length_map, sOf_len]
            exact hz
          · rw [show Txt.join (sOf a) (ys.map sOf) = sOf (TL.joinL a ys) from SX.join_S a ys]
            exact A g H _ Ext.refl R (by simp only [VR])
        · exact A.elim
      · exact A.elim
    · exact A.elim
  · exact A.elim⟩
theorem ge_join {o e : Expr} {dx de : Den} {apos cpos : Pos} (ho : GE X W o dx) (he : GE X W e de) (hbase : attributeBase o "join" X.env (eval o X.env) = eval o X.env := by rfl)
    (hfew : ((backTo cpos (starEach [e] X.env)).all (fun x => !x.1) && (backToKw cpos (keywordEach [] X.env)).all (fun x => x.1.isSome)
      && decide (([e] : List Expr).length + ([] : List Keyword).length + (if ([] : List Keyword).isEmpty then 0 else 1) < 30)) = true := by rfl)
    (hline : (apos.endLine == cpos.line) = true := by rfl) (hs : starEach [e] X.env = (false, eval e X.env) :: starEach [] X.env := by rfl) (hplain : (backTo cpos (starEach [] X.env)).any (·.1) = false := by rfl) :
    GE X W (.Call (.Attribute o "join" apos) [e] [] cpos) (dMeth1 isStr vJoin dx de) :=
  ge_meth1 m1_join PySem.F.plainAttrs_str PySem.F.slot_str_join PySem.F.type_str_join ho he hbase hfew hline hs hplain
end
end GH
set_option Elab.async false
set_option linter.all false
set_option maxRecDepth 100000
set_option maxHeartbeats 1000000
set_option autoImplicit false
/-! Comprehensions of two clauses. -/
namespace GH
open PySem PySem.Spec PyProof.Rows L2
variable [TheWorld]
open Classical in
noncomputable def lcB (t : Tg) (c : DenG Bool) (e : Den) (s : Src) : List Val → List Val → Loc → Hv → Res (List Val)
  | [], acc, _, h => if srcOk s h then .ok acc h else .fail
  | x :: r, acc, l, h => if srcOk s h then (match t x l h with
    | .ok l1 h1 => (match c l1 h1 with
      | .ok b h2 => if b = true then (match e l1 h2 with
        | .ok v h3 => if acc.length < lineN then lcB t c e s r (acc ++ [v]) l h3 else .fail
        | _ => .fail) else lcB t c e s r acc l h2
      | _ => .fail)
    | _ => .fail) else .fail
open Classical in
noncomputable def lc2L (t : Tg) (c : DenG Bool) (di1 : DenG Src) (t1 : Tg) (c1 : DenG Bool) (e : Den) (vs1 : List Nat) (s : Src) : List Val → List Val → Loc → Hv → Res (List Val)
  | [], acc, _, h => if srcOk s h then .ok acc h else .fail
  | x :: r, acc, l, h => if srcOk s h then (match t x l h with
    | .ok l1 h1 => (match c l1 h1 with
      | .ok b h2 => if b = true then (match di1 l1 h2 with
        | .ok s1 h3 => (lcB t1 c1 e s1 s1.1 acc (wipeL l1 vs1) h3).bind fun acc' h4 => lc2L t c di1 t1 c1 e vs1 s r acc' l h4
        | _ => .fail) else lc2L t c di1 t1 c1 e vs1 s r acc l h2
      | _ => .fail)
    | _ => .fail) else .fail
noncomputable def dLc2 (fin : List Val → Hv → Res Val) (vs vs1 : List Nat) (di : DenG Src) (t : Tg) (c : DenG Bool) (di1 : DenG Src) (t1 : Tg) (c1 : DenG Bool) (e : Den) : Den := fun l h => (di l h).bind fun s h1 => (lc2L t c di1 t1 c1 e vs1 s s.1 [] (wipeL l vs) h1).bind fin
section
variable {K : PySem.W.Frag}
/-- the inner loop, from a state of the outer -/
theorem lc_inner {W : WX} {σ0 : L2.St} {Q : VK} {k : List Val → Hv → Res Val} {t : Tg} {c : DenG Bool} {e : Den} {vs : List Nat} {g1 g4 : Gh} {H1 H4 : Hp} {h1 h4 : Hv} {D : Addr} {ys0 : List Val} {xs0 : List V} {J : It} {s : Src} {σ : L2.St} {l : Loc} {Nx : Hp → Prop}
    (R1 : HR K g1 H1 h1) (nD : H1 D = none) (E0 : Ext ⟨g1.m, D :: g1.r⟩ (upd H1 D (.lst [])) g4 (upd H4 D (.lst []))) (R4 : HR K g4 H4 h4) (e4 : H4 D = some (.lst xs0)) (r4 : VRs K g4 H4 ys0 xs0) (S4 : SR K g4 H4 l σ) (sv : Serves K J g4 H4 s) (ok4 : srcOk s h4)
    (A0 : After K W (vr K) σ0 g1 H1 Q ((lcB t c e s s.1 ys0 (wipeL l vs) h4).bind k))
    (fin : ∀ g2 H h ys xs, Ext ⟨g1.m, D :: g1.r⟩ (upd H1 D (.lst [])) g2 (upd H D (.lst [])) → HR K g2 H h → H D = some (.lst xs) → VRs K g2 H ys xs → Ext g4 (upd H4 D (.lst [])) g2 (upd H D (.lst [])) → After K W (vr K) σ0 g1 H1 Q (k ys h) → Nx H) :
    ∃ W1 : Nat → Nat → Hp → Prop, (∃ m, W1 0 m H4) ∧ ∀ i m H, W1 i m H →
      (J.stop i H ∧ Nx H) ∨ (J.go i H ∧ ∃ Nx1 : Hp → Prop, (∀ H', Nx1 H' → ∃ k', k' < m ∧ W1 (i + 1) k' H') ∧ ∀ x H', J.yld i H x H' → (tTc K vs t) x (wipe σ vs) H' fun σ3 H5 => wipe σ3 vs = wipe σ vs ∧ (tG K W0 br c) σ3 H5 fun b H6 =>
        if b = true then (tG K W0 (vr K) e) σ3 H6 fun y H7 => ∃ acc, H7 D = some (.lst acc) ∧ acc.length < sizeLine ∧ Nx1 (upd H7 D (.lst (acc ++ [y]))) else Nx1 H6) := by
  let Wd : Nat → Hp → Prop := fun i H => ∃ g2 h2 ys xs, H D = some (.lst xs) ∧ Ext g4 (upd H4 D (.lst [])) g2 (upd H D (.lst [])) ∧ HR K g2 H h2 ∧ VRs K g2 H ys xs ∧ i ≤ s.1.length ∧
    After K W (vr K) σ0 g1 H1 Q ((lcB t c e s (s.1.drop i) ys (wipeL l vs) h2).bind k)
  refine ⟨fun i m H => m = s.1.length - i ∧ Wd i H, ⟨s.1.length, by simp, g4, h4, ys0, xs0, e4, Ext.refl, R4, r4, Nat.zero_le _, by simpa using A0⟩, ?_⟩
  rintro i m H ⟨rfl, g2, h2, ys, xs, eD, E4, R2, r, hil, A⟩
  have E := E0.trans E4
  have hDr : D ∈ g2.r := by rw [E.r]; exact List.mem_cons_self ..
  have hDm : D ∉ g2.m := fun z => R2.dis D z hDr
  have hD4 : D ∈ g4.r := by rw [E0.r]; exact List.mem_cons_self ..
  have hDm4 : D ∉ g4.m := fun z => R4.dis D z hD4
  obtain ⟨tm, em, nm⟩ := E4.m
  have nm : ∀ b ∈ tm, Fre H4 b := fun b hb => by
    have q := nm b hb
    have hne : b ≠ D := by
      rintro rfl
      obtain ⟨ps, z⟩ := q _ upd_same
      cases z
    intro o z
    exact q o (by rw [upd_ne hne]; exact z)
  -- but for the list itself all is as before
  have keepX : ∀ b o, b ≠ D → H4 b = some o → (∀ ps, o ≠ .tbl ps) → b ∉ g4.m → H b = some o := fun b o hne e nt hb => by
    have q := E4.keepN b o (by rw [upd_ne hne]; exact e) nt hb
    rw [upd_ne hne] at q
    exact q
  -- states and items do not speak of the list
  have R4r := R4.reset (zs := .lst []) hD4 e4 trivial trivial
  have R2r := R2.reset (zs := .lst []) hDr eD trivial trivial
  have S4r : SR K g4 (upd H4 D (.lst [])) l σ := ⟨S4.len, fun i v e => by
    obtain ⟨x, a, b⟩ := S4.at_ i v e
    exact ⟨x, a, b.reset hD4 e4 trivial⟩⟩
  have S2r : SR K g2 (upd H D (.lst [])) l σ := S4r.ext R4r E4
  have back : ∀ {v : Val} {x : V}, VR K g2 (upd H D (.lst [])) v x → VR K g2 H v x := fun {v x} q => by
    have := VR.reset (ds := .lst []) (zs := .lst xs) hDr upd_same trivial q
    rwa [upd_upd, upd_self' eD] at this
  have S2 : SR K g2 H (wipeL l vs) (wipe σ vs) := SR.wipe ⟨S2r.len, fun i v e => by
    obtain ⟨x, a, b⟩ := S2r.at_ i v e
    exact ⟨x, a, back b⟩⟩ vs
  have ES : ExtS g4 H4 g2 H := ⟨⟨tm, em, nm⟩, ⟨[], by rw [E4.r]; rfl, by simp⟩, fun b o e nt hb => keepX b o (fun z => hb (.inr (by rw [z]; exact hD4))) e nt fun z => hb (.inl z)⟩
  have SV := sv g2 H h2 ES R2
  cases hd : s.1.drop i with
  | nil =>
    have hle : s.1.length ≤ i := List.drop_eq_nil_iff.mp hd
    rw [hd] at A
    simp only [lcB] at A
    split at A
    · rename_i ok
      exact .inl ⟨(SV ok i).2 (Nat.le_antisymm hil hle), fin g2 H h2 ys xs E R2 eD r E4 A⟩
    · exact A.elim
  | cons v rest =>
    have hlt : i < s.1.length := by
      by_cases q : i < s.1.length
      · exact q
      · rw [List.drop_eq_nil_iff.mpr (by omega)] at hd; cases hd
    have hv : s.1[i]? = some v := by
      have q := congrArg List.head? hd
      rw [List.head?_drop] at q
      simpa using q
    have hr : s.1.drop (i + 1) = rest := by
      have q := congrArg List.tail hd
      rw [List.tail_drop] at q
      simpa using q
    rw [hd] at A
    simp only [lcB] at A
    split at A
    · rename_i ok
      obtain ⟨go, yl⟩ := (SV ok i).1 v hv
      refine .inr ⟨go, Wd (i + 1), fun H' q => ⟨s.1.length - (i + 1), by omega, rfl, q⟩, fun x H' y => ?_⟩
      obtain ⟨E3, R3, rx⟩ := yl x H' y
      refine ⟨g2, wipeL l vs, h2, v, S2.ext R2 E3, R3, rx, ?_⟩
      cases et : t v (wipeL l vs) h2 with
      | exc x l1 h1 => rw [et] at A; exact A
      | fail => rw [et] at A; exact A
      | ok l3 h3 =>
        rw [et] at A
        simp only at A
        intro gb Hb σb Eb Rb Sb wb
        refine ⟨wb.trans (wipe_wipe fun _ hu => hu), gb, l3, h3, Sb, Rb, ?_⟩
        cases ec : c l3 h3 with
        | exc x h1 => rw [ec] at A; exact A.elim
        | fail => rw [ec] at A; exact A.elim
        | ok b h5 =>
          rw [ec] at A
          simp only at A
          intro g5 H5 b' E5 R5 eb
          obtain rfl : b = b' := eb
          have E25 := (E3.trans Eb).trans E5
          have keepD : ∀ {g6 : Gh} {H6 : Hp}, Ext g2 H g6 H6 → H6 D = some (.lst xs) := fun E6 => E6.keep D _ eD hDm
          cases b with
          | false =>
            rw [if_neg Bool.false_ne_true] at A ⊢
            exact ⟨g5, h5, ys, xs, keepD E25, E4.trans (E25.reset hDm eD), R5, r.ext R2 E25, hlt, by rw [hr]; exact A⟩
          | true =>
            rw [if_pos rfl] at A ⊢
            refine ⟨g5, l3, h5, Sb.ext Rb E5, R5, ?_⟩
            cases ee : e l3 h5 with
            | exc x h1 => rw [ee] at A; exact A.elim
            | fail => rw [ee] at A; exact A.elim
            | ok y h6 =>
              rw [ee] at A
              simp only at A
              intro g6 H6 xv E6 R6 rv
              have E26 := E25.trans E6
              have hD6 : D ∈ g6.r := by rw [E26.r]; exact hDr
              have k6 := keepD E26
              split at A
              · rename_i hac
                refine ⟨xs, k6, by rw [← r.length]; exact line_lt hac, g6, h6, ys ++ [y], xs ++ [xv], upd_same, ?_, R6.reset hD6 k6 trivial trivial, ((r.ext R2 E26).append (.one rv)).reset hD6 k6 trivial, hlt, by rw [hr]; exact A⟩
                rw [upd_upd]
                exact E4.trans (E26.reset hDm eD)
              · exact A.elim
    · exact A.elim
theorem bind_assoc' {α β γ : Type} (r : Res α) (f : α → Hv → Res β) (k : β → Hv → Res γ) : (r.bind f).bind k = r.bind fun a h => (f a h).bind k := by
  cases r <;> rfl
theorem lc2_red {W : WX} {fin : List Val → Hv → Res Val} (hfin : FinOk K fin) {vs vs1 : List Nat} {di : DenG Src} {t : Tg} {c : DenG Bool} {di1 : DenG Src} {t1 : Tg} {c1 : DenG Bool} {e : Den} {σ : L2.St} {H : Hp} {Q : VK} (z : tG K W (vr K) (dLc2 fin vs vs1 di t c di1 t1 c1 e) σ H Q) :
    tLc2 (tI K W di) (tTc K vs t) (tG K W0 br c) (tI K W0 di1) (tTc K vs1 t1) (tG K W0 br c1) (tG K W0 (vr K) e) vs vs1 σ H Q := by
  obtain ⟨g, l, h, S, R, A⟩ := z
  refine ⟨g, l, h, S, R, ?_⟩
  unfold dLc2 at A
  unfold AfterI
  cases ed : di l h with
  | exc x h1 => rw [ed] at A; exact A
  | fail => rw [ed] at A; exact A
  | ok s h1 =>
    rw [ed] at A
    simp only [Res.bind_ok] at A
    have ok1 : srcOk s h1 := by
      cases hs1 : s.1 with
      | nil =>
        rw [hs1] at A
        simp only [lc2L] at A
        split at A
        · assumption
        · exact A.elim
      | cons x r =>
        rw [hs1] at A
        simp only [lc2L] at A
        split at A
        · assumption
        · exact A.elim
    refine ⟨ok1, fun g1 H1 J E1 R1 hz sv D nD => ?_⟩
    have A := After.ext E1 A
    have al : ∀ b ∈ g1.r, ∃ o, H1 b = some o := fun b hb => R1.own_there (.inr hb)
    have S1 := S.ext R E1
    -- the new list is put aside
    have ES : ExtS g1 H1 ⟨g1.m, D :: g1.r⟩ (upd H1 D (.lst [])) := ⟨⟨[], by simp, by simp⟩, ⟨[D], rfl, fun b hb => by rw [List.mem_singleton.mp hb]; exact fre_none nD⟩, fun b o e _ hb => by rw [upd_ne (ne_of_none e nD)]; exact e⟩
    have RD : HR K ⟨g1.m, D :: g1.r⟩ (upd H1 D (.lst [])) h1 := by
      refine ⟨R1.len, R1.nd, fun a ha z => ?_, fun a ha => ?_, fun i o a e1 e2 => ?_⟩
      · rcases List.mem_cons.mp z with z | z
        · subst z; exact R1.fresh nD (.inl ha)
        · exact R1.dis a ha z
      · rcases List.mem_cons.mp ha with z | z
        · subst z; exact ⟨_, upd_same, trivial⟩
        · obtain ⟨ob, e, mo⟩ := R1.al a z
          exact ⟨ob, by rw [upd_ne (ne_of_none e nD)]; exact e, mo⟩
      · have q := R1.obj i o a e1 e2
        cases o with
        | lst l => obtain ⟨xs, e, r⟩ := q; exact ⟨xs, by rw [upd_ne (ne_of_none e nD)]; exact e, r.extS R1 ES⟩
        | dic l => obtain ⟨xs, e, r⟩ := q; exact ⟨xs, by rw [upd_ne (ne_of_none e nD)]; exact e, r.1, r.2.extS R1 ES⟩
        | ins c f => obtain ⟨dx, gs, e, r⟩ := q; exact ⟨dx, gs, by rw [upd_ne (ne_of_none e nD)]; exact e, r.1, r.2.extS R1 ES⟩
        | dn l => obtain ⟨xs, ys, e, p, r1, r2⟩ := q; exact ⟨xs, ys, by rw [upd_ne (ne_of_none e nD)]; exact e, p, r1.extS R1 ES, r2.extS R1 ES⟩
        | tbl t => exact ⟨q.1, q.2.stay (fun ps e => by rw [upd_ne (ne_of_none e nD)]; exact e) (fun c o e nt hn => ⟨by rw [upd_ne (ne_of_none e nD)]; exact e, ES.nown hn e nt⟩)⟩
    let Wd : Nat → Hp → Prop := fun i H => ∃ g2 h2 ys xs, H D = some (.lst xs) ∧ Ext ⟨g1.m, D :: g1.r⟩ (upd H1 D (.lst [])) g2 (upd H D (.lst [])) ∧ HR K g2 H h2 ∧ VRs K g2 H ys xs ∧ i ≤ s.1.length ∧
      After K W (vr K) σ g1 H1 Q ((lc2L t c di1 t1 c1 e vs1 s (s.1.drop i) ys (wipeL l vs) h2).bind fin)
    refine ⟨fun i m H => m = s.1.length - i ∧ Wd i H, ⟨s.1.length, by simp, ⟨g1.m, D :: g1.r⟩, h1, [], [], upd_same, by rw [upd_upd]; exact Ext.refl, RD, VRs.nil, Nat.zero_le _, by simpa using A⟩, ?_⟩
    rintro i m H ⟨rfl, g2, h2, ys, xs, eD, E, R2, r, hil, A⟩
    have hDr : D ∈ g2.r := by rw [E.r]; exact List.mem_cons_self ..
    have hDm : D ∉ g2.m := fun z => R2.dis D z hDr
    obtain ⟨tm, em, nm⟩ := E.m
    have em : g2.m = g1.m ++ tm := em
    have nm : ∀ b ∈ tm, Fre H1 b := fun b hb => by
      have q := nm b hb
      have hne : b ≠ D := by
        rintro rfl
        obtain ⟨ps, z⟩ := q _ upd_same
        cases z
      intro o z
      exact q o (by rw [upd_ne hne]; exact z)
    have keep : ∀ b o, H1 b = some o → (∀ ps, o ≠ .tbl ps) → b ∉ g1.m → H b = some o := fun b o e nt hb => by
      have hne := ne_of_none e nD
      have q := E.keepN b o (by rw [upd_ne hne]; exact e) nt hb
      rw [upd_ne hne] at q
      exact q
    have E2S : ExtS g1 H1 g2 H := ⟨⟨tm, em, nm⟩, ⟨[D], E.r, fun b hb => by rw [List.mem_singleton.mp hb]; exact fre_none nD⟩, fun b o e nt hb => keep b o e nt fun z => hb (.inl z)⟩
    have E2 : Ext g1 H1 ⟨g2.m, g1.r⟩ H := ⟨⟨tm, em, nm⟩, rfl, keep, fun b o e nt => by
      have hne := ne_of_none e nD
      obtain ⟨o', q, nt'⟩ := E.there b o (by rw [upd_ne hne]; exact e) nt
      rw [upd_ne hne] at q
      exact ⟨o', q, nt'⟩⟩
    have S2 : SR K g2 H (wipeL l vs) (wipe σ vs) := (S1.extS R1 E2S).wipe vs
    cases hd : s.1.drop i with
    | nil =>
      have hle : s.1.length ≤ i := List.drop_eq_nil_iff.mp hd
      rw [hd] at A
      simp only [lc2L] at A
      split at A
      · rename_i ok
        exact .inl ⟨(sv g2 H h2 E2S R2 ok i).2 (Nat.le_antisymm hil hle), hfin nD al hDr E.r eD E2 R2 r A⟩
      · exact A.elim
    | cons v rest =>
      have hlt : i < s.1.length := by
        by_cases q : i < s.1.length
        · exact q
        · rw [List.drop_eq_nil_iff.mpr (by omega)] at hd; cases hd
      have hv : s.1[i]? = some v := by
        have q := congrArg List.head? hd
        rw [List.head?_drop] at q
        simpa using q
      have hr : s.1.drop (i + 1) = rest := by
        have q := congrArg List.tail hd
        rw [List.tail_drop] at q
        simpa using q
      rw [hd] at A
      simp only [lc2L] at A
      split at A
      · rename_i ok
        obtain ⟨go, yl⟩ := (sv g2 H h2 E2S R2 ok i).1 v hv
        refine .inr ⟨go, Wd (i + 1), fun H' q => ⟨s.1.length - (i + 1), by omega, rfl, q⟩, fun x H' y => ?_⟩
        obtain ⟨E3, R3, rx⟩ := yl x H' y
        refine ⟨g2, wipeL l vs, h2, v, S2.ext R2 E3, R3, rx, ?_⟩
        cases et : t v (wipeL l vs) h2 with
        | exc x l1 h1 => rw [et] at A; exact A
        | fail => rw [et] at A; exact A
        | ok l3 h3 =>
          rw [et] at A
          simp only at A
          intro g4 H4 σ4 E4 R4 S4 w4
          refine ⟨w4.trans (wipe_wipe fun _ hu => hu), g4, l3, h3, S4, R4, ?_⟩
          cases ec : c l3 h3 with
          | exc x h1 => rw [ec] at A; exact A.elim
          | fail => rw [ec] at A; exact A.elim
          | ok b h5 =>
            rw [ec] at A
            simp only at A
            intro g5 H5 b' E5 R5 eb
            obtain rfl : b = b' := eb
            have E25 := (E3.trans E4).trans E5
            have keepD : ∀ {g6 : Gh} {H6 : Hp}, Ext g2 H g6 H6 → H6 D = some (.lst xs) := fun E6 => E6.keep D _ eD hDm
            cases b with
            | false =>
              rw [if_neg Bool.false_ne_true] at A ⊢
              exact ⟨g5, h5, ys, xs, keepD E25, E.trans (E25.reset hDm eD), R5, r.ext R2 E25, hlt, by rw [hr]; exact A⟩
            | true =>
              rw [if_pos rfl] at A ⊢
              refine ⟨g5, l3, h5, S4.ext R4 E5, R5, ?_⟩
              cases ei : di1 l3 h5 with
              | exc x h1 => rw [ei] at A; exact A.elim
              | fail => rw [ei] at A; exact A.elim
              | ok s1 h6 =>
                rw [ei] at A
                simp only at A
                have ok6 : srcOk s1 h6 := by
                  cases hs1 : s1.1 with
                  | nil =>
                    rw [hs1] at A
                    simp only [lcB] at A
                    split at A
                    · assumption
                    · exact A.elim
                  | cons x r =>
                    rw [hs1] at A
                    simp only [lcB] at A
                    split at A
                    · assumption
                    · exact A.elim
                refine ⟨ok6, fun g6 H6 J1 E6 R6 hz1 sv1 => ?_⟩
                have E26 := E25.trans E6
                have k6 := keepD E26
                have S6 := (S4.ext R4 E5).ext R5 E6
                refine lc_inner (k := fun acc' h4 => (lc2L t c di1 t1 c1 e vs1 s rest acc' (wipeL l vs) h4).bind fin) R1 nD (E.trans (E26.reset hDm eD)) R6 k6 (r.ext R2 E26) S6 sv1 ok6 (by rw [← bind_assoc']; exact A) fun g7 H7 h7 ys7 xs7 E7 R7 e7 r7 E67 A7 => ?_
                exact ⟨g7, h7, ys7, xs7, e7, E7, R7, r7, hlt, by rw [hr]; exact A7⟩
      · exact A.elim
end
section
variable {X : Cx} {W : WX}
theorem ge_lc2 {fin : List Val → Hv → Res Val} (hfin : FinOk X.K fin) {elt tg iter tg1 iter1 : Expr} {ifs ifs1 : List Expr} {scope : Scope} (own : List (Str × Nat)) (vs1 : List Nat) {pos : Pos} {di di1 : DenG Src} {t t1 : Tg} {c c1 : DenG Bool} {e : Den} (hc : X.calm = true) (hN : X.N.Nodup) (hi : GI X W tg iter di)
    (hg : ∀ (s : Shared) (H : Hp) (C : Addr) (cl : List (Str × Addr)) (fp : List Addr), GC (X.blk s H scope (compEnvC scope cl C X.env) fp) (own.map (·.2)) tg t) (ht : ∀ (s : Shared) (H : Hp) (C : Addr) (cl : List (Str × Addr)) (fp : List Addr), GTs (X.blk s H scope (compEnvC scope cl C X.env) fp) W0 ifs c)
    (hi1 : ∀ (s : Shared) (H : Hp) (C : Addr) (cl : List (Str × Addr)) (fp : List Addr), GI (X.blk s H scope (compEnvC scope cl C X.env) fp) W0 tg1 iter1 di1)
    (hg1 : ∀ (s : Shared) (H : Hp) (C : Addr) (cl : List (Str × Addr)) (fp : List Addr), GC (X.blk s H scope (compEnvC scope cl C X.env) fp) vs1 tg1 t1) (ht1 : ∀ (s : Shared) (H : Hp) (C : Addr) (cl : List (Str × Addr)) (fp : List Addr), GTs (X.blk s H scope (compEnvC scope cl C X.env) fp) W0 ifs1 c1)
    (he : ∀ (s : Shared) (H : Hp) (C : Addr) (cl : List (Str × Addr)) (fp : List Addr), GE (X.blk s H scope (compEnvC scope cl C X.env) fp) W0 elt e) (hv : ∀ i ∈ vs1, i ∈ own.map (·.2) := by decide) (ok : blkC X.N X.env.scope scope own = true := by first | rfl | decide +kernel) (hs : ∀ x, foldedSetIterable iter X.env x = pure x := by intro _; rfl) (hs1 : ∀ env x, foldedSetIterable iter1 env x = pure x := by intro _ _; rfl) :
    GE X W (.ListComp elt [⟨tg, iter, ifs, 0⟩, ⟨tg1, iter1, ifs1, 0⟩] scope pos) (dLc2 fin (own.map (·.2)) vs1 di t c di1 t1 c1 e) :=
  PE.imp (pe_lc2 (g := tTc X.K (own.map fun p : Str × Nat => p.2) t) (tt := tG X.K W0 br c) (wi1 := tI X.K W0 di1) (g1 := tTc X.K vs1 t1) (tt1 := tG X.K W0 br c1) (te := tG X.K W0 (vr X.K) e) hc hN hi (blkOk_by ok) hv hg ht hi1 hg1 ht1 he hs hs1) fun σ H Q z => lc2_red hfin z
theorem gs_setLc2 {fin : List Val → Hv → Res Val} (hfin : FinOk X.K fin) (i : Nat) {y : Str} {py : Pos} {elt tg iter tg1 iter1 : Expr} {ifs ifs1 : List Expr} {scope : Scope} (own : List (Str × Nat)) (vs1 : List Nat) {pos spos : Pos} {di di1 : DenG Src} {t t1 : Tg} {c c1 : DenG Bool} {e : Den} (hc : X.calm = true) (hN : X.N.Nodup) (hi : GI X W tg iter di)
    (hg : ∀ (s : Shared) (H : Hp) (C : Addr) (cl : List (Str × Addr)) (fp : List Addr), GC (X.blk s H scope (compEnvC scope cl C X.env) fp) (own.map (·.2)) tg t) (ht : ∀ (s : Shared) (H : Hp) (C : Addr) (cl : List (Str × Addr)) (fp : List Addr), GTs (X.blk s H scope (compEnvC scope cl C X.env) fp) W0 ifs c)
    (hi1 : ∀ (s : Shared) (H : Hp) (C : Addr) (cl : List (Str × Addr)) (fp : List Addr), GI (X.blk s H scope (compEnvC scope cl C X.env) fp) W0 tg1 iter1 di1)
    (hg1 : ∀ (s : Shared) (H : Hp) (C : Addr) (cl : List (Str × Addr)) (fp : List Addr), GC (X.blk s H scope (compEnvC scope cl C X.env) fp) vs1 tg1 t1) (ht1 : ∀ (s : Shared) (H : Hp) (C : Addr) (cl : List (Str × Addr)) (fp : List Addr), GTs (X.blk s H scope (compEnvC scope cl C X.env) fp) W0 ifs1 c1)
    (he : ∀ (s : Shared) (H : Hp) (C : Addr) (cl : List (Str × Addr)) (fp : List Addr), GE (X.blk s H scope (compEnvC scope cl C X.env) fp) W0 elt e) (hy : X.N[i]? = some y := by rfl) (hyl : X.env.scope.names.lookup y = some .local := by rfl) (hsw : swapsWith (.ListComp elt [⟨tg, iter, ifs, 0⟩, ⟨tg1, iter1, ifs1, 0⟩] scope pos) (some (.Name y py)) spos.line X.env = pure true := by exact sw_true rfl rfl rfl (by decide +kernel)) (hv : ∀ i ∈ vs1, i ∈ own.map (·.2) := by decide) (ok : blkC X.N X.env.scope scope own = true := by first | rfl | decide +kernel) (hs : ∀ x, foldedSetIterable iter X.env x = pure x := by intro _; rfl) (hs1 : ∀ env x, foldedSetIterable iter1 env x = pure x := by intro _ _; rfl) :
    GS X W (.Assign [.Name y py] (.ListComp elt [⟨tg, iter, ifs, 0⟩, ⟨tg1, iter1, ifs1, 0⟩] scope pos) spos) (sAsg (dLc2 fin (own.map (·.2)) vs1 di t c di1 t1 c1 e) (gName i)) := by
  refine PS.imp (ps_setLc2 (g := tTc X.K (own.map fun p : Str × Nat => p.2) t) (tt := tG X.K W0 br c) (wi1 := tI X.K W0 di1) (g1 := tTc X.K vs1 t1) (tt1 := tG X.K W0 br c1) (te := tG X.K W0 (vr X.K) e) hc hN hy hyl hsw hi (blkOk_by ok) hv hg ht hi1 hg1 ht1 he hs hs1) fun D σ H ⟨g, l, h, S, R, A⟩ => ?_
  refine lc2_red hfin ?_
  refine tG_to S R A fun v h1 g1 H1 x E S1 R1 r1 A1 => ?_
  exact A1 g1 H1 _ Ext.refl R1 (S1.set i r1)
end
end GH
set_option Elab.async false
set_option linter.all false
set_option maxRecDepth 100000
set_option maxHeartbeats 1000000
set_option autoImplicit false
/-! t[:0:-1] of a tuple. -/
namespace HT
open PySem PySem.Spec PyProof.Rows
section
variable {prog : Program} {w : World} {A : Around} {E : Value → Shared → Prop} {s : Shared}
theorem gh_adjust (n : Nat) : Builtin.Slice.sliceAdjust none (some 0) (-1) (n : Int) = ((n : Int) - 1, if n = 0 then -1 else 0) := by
  unfold Builtin.Slice.sliceAdjust
  cases n with
  | zero => rfl
  | succ n =>
    refine Prod.ext ?_ ?_
    · simp
    · simp
      omega
theorem gh_places (n : Nat) : Builtin.Slice.slicePlaces ((n : Int) - 1) (if n = 0 then -1 else 0) (-1) = n - 1 := by
  unfold Builtin.Slice.slicePlaces
  cases n with
  | zero => rfl
  | succ n =>
    simp
    omega
theorem gh_applied {sl : Addr} {vl vu vs : Value} {n : Nat} {Q : Int × Int × Nat → Shared → Prop} (hs : s.heap.IsSliceOf sl vl vu vs) (pl : IsPart vl none) (pu : IsPart vu (some 0)) (ps : IsPart vs (some (-1)))
    (h : Q ((n : Int) - 1, -1, n - 1) s) : wpAny (model prog w) A (Builtin.Slice.sliceApplied (.ref sl) (pure (n : Int))) Q E s := by
  obtain ⟨os, hos, hcs, hds⟩ := id hs
  unfold Builtin.Slice.sliceApplied Builtin.Slice.sliceFields
  refine wpAny_bind (wpAny_bind (wpAny_field hos hds (x := vl) rfl (wpAny_bind (wpAny_field hos hds (x := vu) rfl (wpAny_bind (wpAny_field hos hds (x := vs) rfl (wpAny_pure ?_)))))))
  refine wpAny_bind (slicePart_ ps ?_)
  show wpAny _ _ (if ((-1 : Int) == 0) = true then _ else _) _ _ s
  rw [if_neg (by decide)]
  refine wpAny_bind (slicePart_ pl (wpAny_bind (slicePart_ pu (wpAny_bind (wpAny_pure ?_)))))
  show wpAny _ _ (match Builtin.Slice.sliceAdjust none (some 0) (-1) (n : Int) with | (lo, hi) => pure (lo, (-1 : Int), Builtin.Slice.slicePlaces lo hi (-1))) _ _ s
  rw [gh_adjust n]
  show wpAny _ _ (pure ((n : Int) - 1, (-1 : Int), Builtin.Slice.slicePlaces ((n : Int) - 1) (if n = 0 then -1 else 0) (-1))) _ _ s
  rw [gh_places]
  exact wpAny_pure h
theorem gh_pick_list (xs : List Value) : ((List.range (xs.length - 1)).filterMap fun (m : Nat) => xs[(((xs.length : Nat) : Int) - 1 + (m : Int) * -1).toNat]?) = (xs.drop 1).reverse := by
  have gen : ∀ k, k ≤ xs.length - 1 → ((List.range k).filterMap fun (m : Nat) => xs[(((xs.length : Nat) : Int) - 1 + (m : Int) * -1).toNat]?) = (xs.drop (xs.length - k)).reverse := by
    intro k
    induction k with
    | zero => intro _; simp
    | succ k ih =>
      intro hk
      rw [List.range_succ, List.filterMap_append, ih (by omega)]
      have e : (((xs.length : Nat) : Int) - 1 + (k : Int) * -1).toNat = xs.length - (k + 1) := by omega
      have hlt : xs.length - (k + 1) < xs.length := by omega
      simp only [List.filterMap_cons, e, List.getElem?_eq_getElem hlt, List.filterMap_nil]
      have d := List.drop_eq_getElem_cons hlt
      rw [d, show xs.length - (k + 1) + 1 = xs.length - k by omega]
      simp
  have := gen (xs.length - 1) (Nat.le_refl _)
  rw [this]
  cases xs with
  | nil => rfl
  | cons a l => simp
theorem gh_pick (xs : Array Value) : ((List.range (xs.size - 1)).filterMap fun (m : Nat) => xs[((xs.size : Int) - 1 + (m : Int) * -1).toNat]?).toArray = ((xs.toList.drop 1).reverse).toArray := by
  have := gh_pick_list xs.toList
  simp only [Array.length_toList, Array.getElem?_toList] at this
  rw [this]
theorem gh_getItem {t sl : Addr} {items : Array Value} {vl vu vs : Value} {Q : Value → Shared → Prop} (ht : IsTup s.heap t items) (hs : s.heap.IsSliceOf sl vl vu vs) (pl : IsPart vl none) (pu : IsPart vu (some 0)) (ps : IsPart vs (some (-1)))
    (h : Q (.ref s.heap.objs.size) { s with heap := s.heap.push { cls := .type "tuple", data := .seq ((items.toList.drop 1).reverse).toArray } })
    (hsz : items.size ≤ sizeLine) : wpAny (model prog w) A (getItem (.ref t) (.ref sl)) Q E s := by
  have htake : sizeOk (.seq ((items.toList.drop 1).reverse).toArray) := by
    show ((items.toList.drop 1).reverse).toArray.size ≤ sizeLine
    rw [List.size_toArray, List.length_reverse, List.length_drop, Array.length_toList]
    omega
  obtain ⟨os, hos, hcs, hds⟩ := id hs
  have hTs : s.TypeIs (.ref sl) "slice" := ⟨os, hos, hcs⟩
  unfold getItem
  try with_reducible refine wpAny_holding ?_
  first | refine wpAny_bind (wpAny_pure ?_) | skip
  refine wpAny_bind (wpAny_sequenceKey ht.typeIs (by decide) ?_)
  refine wpAny_bind (wpAny_callSpecial?_slot (name := Str.ofString "__getitem__") ht.typeIs PyProof.Rows.slot_tuple_getitem
    (wpAny_call_entry PyProof.Rows.slot_tuple_getitem ht.typeIs entry_tuple_getitem ?_ (args_tuple_getitem _ _)))
  show wpAny _ _ (Builtin.Tuple.tupleItemsOf (.ref t) >>= _) _ _ s
  refine wpAny_bind (tupleItemsOf_ ht ?_)
  refine wpAny_bind (wpAny_typeOf hTs ?_)
  rw [if_pos (by decide)]
  refine wpAny_bind (gh_applied hs pl pu ps ?_)
  have hno : ¬ ((((items.size : Int) - 1) == 0 && (-1 : Int) == 1 && (items.size - 1) == items.size) = true) := by
    intro q
    rw [Bool.and_eq_true, Bool.and_eq_true] at q
    exact absurd (eq_of_beq q.1.2) (by decide)
  show wpAny _ _ (if (((items.size : Int) - 1) == 0 && (-1 : Int) == 1 && (items.size - 1) == items.size) = true then _ else _) _ _ s
  rw [if_neg hno, gh_pick]
  first
    | exact wpAny_bind (m := Builtin.Tuple.tupleExact _) (wpAny_newObj_type (wpAny_pure ⟨_, rfl, wpAny_pure h⟩) htake)
    | exact wpAny_bind (m := Builtin.Tuple.tupleExact _) (wpAny_newObj_type (wpAny_bind (wpAny_pure (wpAny_pure ⟨_, rfl, wpAny_pure h⟩))) htake)
    | exact wpAny_bind (wpAny_bind (m := Builtin.Tuple.tupleExact _) (wpAny_newObj_type (wpAny_pure (wpAny_pure ⟨_, rfl, wpAny_pure h⟩)) htake))
    | exact wpAny_bind (wpAny_bind (m := Builtin.Tuple.tupleExact _) (wpAny_newObj_type (wpAny_pure ⟨_, rfl, wpAny_pure h⟩) htake))
end
end HT
namespace GH
open PySem PySem.Spec PyProof.Rows L2
variable [TheWorld]
section
variable {X : Cx} {W : WX}
def vBack (v : Val) (h : Hv) : Res Val := match v with
  | .tup l => .ok (.tup (l.drop 1).reverse) h
  | _ => .fail
def tBack (K : PySem.W.Frag) (te : TE) : TE := fun σ H Q => te σ H fun x H1 => ∃ a xs, x = .ref a ∧ SqT K H1 a xs ∧ ∀ p, H1 p = none → Q (.ref p) (upd H1 p (.tup (xs.drop 1).reverse))
theorem pe_back {e : Expr} {te : TE} {k k0 : Nat} {p0 p1 p2 p3 pos : Pos} (he : PE X e te) : PE X (.Subscript e (.Slice none (some (.Constant (.int 0) k0 p0)) (some (.UnaryOp .USub (.Constant (.int 1) k p1) p2)) p3) pos) (tBack X.K te) := by
  refine ⟨fun pins s σ H Q I h => ?_⟩
  refine Subscript_ (thn (he.run pins s σ H _ I h) fun v s1 ⟨x, H1, I1, r1, q1⟩ => ?_)
  obtain ⟨a, xs, ex, hx, q⟩ := q1
  subst ex
  cases r1
  have hst : PO X (some (.UnaryOp .USub (.Constant (.int 1) k p1) p2)) (tPart (tUn (rU fun i => .int (-i)) (tC (.int 1)))) := po_some (pe_un un_neg pe_int)
  have hup : PO X (some (.Constant (.int 0) k0 p0)) (tPart (tC (.int 0))) := po_some pe_int
  refine wpAny_Slice (thn (po_none.run pins s1 σ H1 (fun o H2 => o = none ∧ H2 = H1) I1 ⟨rfl, rfl⟩) fun vl s2 ⟨l, H2, I2, pl, el, e2⟩ => ?_)
  subst el e2
  refine thn (hup.run pins s2 σ H2 (fun o H3 => o = some 0 ∧ H3 = H2) I2 ⟨0, rfl, rfl, rfl⟩) fun vu s3 ⟨u, H3, I3, pu, eu, e3⟩ => ?_
  subst eu e3
  refine thn (hst.run pins s3 σ H3 (fun o H4 => o = some (-1) ∧ H4 = H3) I3 ⟨1, rfl, -1, rfl, rfl, rfl⟩) fun vs s4 ⟨o, H4, I4, ps, eo, e4⟩ => ?_
  subst eo e4
  have I5 : Inv X pins σ H4 { s4 with heap := s4.heap.push { cls := .type "slice", data := .fields #[vl, vu, vs] } } := I4.kept (t' := s4.toks) fun b ob q => Heap.get?_push_of_some _ q
  obtain ⟨its, r, ht, hz⟩ := I5.tuple hx
  have hlen := r.length
  refine tail_any (ops := [.ref a, .ref s4.heap.objs.size]) ht.typeIs (PyProof.Rows.slot_tuple_getitem.lookup) ?_ (by with_unfolding_all rfl)
  refine HT.gh_getItem ht (Heap.IsSliceOf.new _ vl vu vs) pl pu ps ?_ (by rw [List.size_toArray]; omega)
  refine ⟨.ref _, _, I5.laid (t' := s4.toks) (o := .tup (xs.drop 1).reverse) (fun b ob q => Heap.get?_push_of_some _ q) (Nat.le_refl _) ?_, rfl, q _ (I5.hok.fresh (Nat.le_refl _))⟩
  exact ⟨by rw [List.length_reverse, List.length_drop]; omega, _, (r.drop 1).reverse, IsTup.new _ _⟩
theorem ge_back {e : Expr} {d : Den} {k k0 : Nat} {p0 p1 p2 p3 pos : Pos} (he : GE X W e d) : GE X W (.Subscript e (.Slice none (some (.Constant (.int 0) k0 p0)) (some (.UnaryOp .USub (.Constant (.int 1) k p1) p2)) p3) pos) (dFn vBack d) := by
  refine PE.imp (pe_back he) fun σ H Q ⟨g, l, h, S, R, A⟩ => ?_
  refine tG_of S R A fun v h1 g1 H1 x E S1 R1 r1 A1 => ?_
  unfold vBack at A1
  split at A1
  · have r1 : VR X.K g1 H1 (.tup _) x := r1
    simp only [VR] at r1
    obtain ⟨a, xs, rfl, hq, rs⟩ := r1
    refine ⟨a, xs, rfl, hq, fun p np => ?_⟩
    obtain ⟨E4, R4⟩ := R1.grow (o := .tup (xs.drop 1).reverse) np
    refine A1 g1 _ (.ref p) E4 R4 ?_
    simp only [VR]
    exact ⟨p, _, rfl, SqT.of upd_same, ((rs.drop 1).reverse).ext R1 E4⟩
  · exact A1.elim
end
end GH
set_option Elab.async false
set_option linter.all false
set_option maxRecDepth 100000
set_option maxHeartbeats 4000000
set_option autoImplicit false
/-! sets of texts: made of a tuple or a list, walked, sorted. -/
namespace GH
open PySem PySem.Spec PyProof.Rows L2
variable [TheWorld]
def keyS (e : Int × Value) : Str := match e.2 with | .str k _ => k | _ => Str.empty
def GoodS (w : World) (e : Int × Value) : Prop := ∃ k tk, e.2 = Value.str k tk ∧ e.1 = hashStr w k
/-- the set of texts at a, its members L -/
def SetS (w : World) (h : Heap) (a : Addr) (L : List Str) : Prop :=
  ∃ o es ep t, h.get? a = some o ∧ o.ExactSet ∧ o.data = .set es ep t ∧ (∀ e ∈ es.toList, GoodS w e) ∧ (es.toList.map keyS).Perm L ∧ L.Nodup ∧
    es.size < scanBound ∧ t.fits es.size = true ∧ Ris t.place.toList ∧ (w.params.followText "set-order" = true ∨ t.led = true)
def addS (L : List Str) (k : Str) : List Str := if k ∈ L then L else L ++ [k]
def ddS (xs : List Str) : List Str := xs.foldl addS []
section
variable {P : Program} {w : World} {h h' : Heap} {a : Addr} {L : List Str}
theorem SetS.at (R : SetS w h a L) (k : ∀ o, h.get? a = some o → h'.get? a = some o) : SetS w h' a L := by
  obtain ⟨o, es, ep, t, ho, r⟩ := R
  exact ⟨o, es, ep, t, k o ho, r⟩
theorem goodS_elems {l : List (Int × Value)} (g : ∀ e ∈ l, GoodS w e) : ElemsOf (PySem.strKind P w) l := fun e he => by
  obtain ⟨k, tk, h1, h2⟩ := g e he
  exact ⟨⟨k, by rw [h1]; exact strKind_is P w k tk, h2⟩, by rw [h1] <;> rfl⟩
theorem goodS_is {e : Int × Value} (g : GoodS w e) (k : Str) : (PySem.strKind P w).is k e.2 = true ↔ keyS e = k := by
  obtain ⟨k0, tk, h1, _⟩ := g
  unfold keyS
  rw [h1]
  constructor
  · intro z
    exact (PySem.strKind P w).inj (.str k0 tk) k0 k (strKind_is P w k0 tk) z
  · rintro rfl
    exact strKind_is P w k0 tk
theorem goodS_mem {l : List (Int × Value)} (g : ∀ e ∈ l, GoodS w e) (k : Str) : k ∈ l.map keyS ↔ ∃ e ∈ l, (PySem.strKind P w).is k e.2 = true := by
  rw [List.mem_map]
  constructor
  · rintro ⟨e, he, q⟩
    exact ⟨e, he, (goodS_is (g e he) k).2 q⟩
  · rintro ⟨e, he, q⟩
    exact ⟨e, he, (goodS_is (g e he) k).1 q⟩
theorem addS_nodup {k : Str} (nd : L.Nodup) : (addS L k).Nodup := by
  unfold addS
  split
  · exact nd
  · rename_i c
    refine List.nodup_append.mpr ⟨nd, by simp, fun x hx y hy => ?_⟩
    rw [List.mem_singleton.mp hy]
    rintro rfl
    exact c hx
end
section
variable {P : Program} {w : World} {A : Around} {E : Value → Shared → Prop} {s : Shared} {a : Addr} {L : List Str}
theorem setS_add_tail {g : Bool → Sem Unit} (hg : ∀ (b : Bool) (s₁ : Shared) (Q' : Unit → Shared → Prop), Q' () s₁ → wpAny (model P w) A (g b) Q' E s₁)
    {o : Obj} {es : Array (Int × Value)} {ep : Nat} {t : SetTable} (ho : s.heap.get? a = some o) (hex : o.ExactSet) (hd : o.data = .set es ep t)
    {es1 : Array (Int × Value)} {t2 : SetTable} (g1 : ∀ e ∈ es1.toList, GoodS w e) (p1 : (es1.toList.map keyS).Perm L) (nd1 : L.Nodup)
    (hb1 : es1.size < scanBound) (hf2 : t2.fits es1.size = true) (hr : Ris t2.place.toList) (hl : w.params.followText "set-order" = true ∨ t2.led = true) {wasDummy : Bool} {R : Option Bool → Shared → Prop}
    (hR : ∀ h', Heap.SameBut a s.heap h' → SetS w h' a L → R (some true) { s with heap := h' }) :
    wpAny (model P w) A (do
        storeSet a es1 t2
        if (!wasDummy && t2.tooFull) = true then do
            g (relayAll t2 es1 (SetTable.grown es1.size)).2.2
            storeSet a (relayAll t2 es1 (SetTable.grown es1.size)).1 (relayAll t2 es1 (SetTable.grown es1.size)).2.1
            pure (some true)
          else pure (some true)) R E s := by
  refine wpAny_bind (wpAny_storeSet_of ho hd ?_ (fits_of_scanBound hb1))
  have ho1 := store_at (es' := es1) (t' := t2) ho hd
  have sb1 := Heap.SameBut.update s.heap a (Obj.putSet es1 t2)
  split
  · have pm := relayAll_perm t2 es1 (SetTable.grown es1.size)
    have hf3 := relayAll_fits t2 es1 (SetTable.grown es1.size)
    have hr3 := relayAll_ris t2 es1 (SetTable.grown es1.size)
    have hl3 := relayAll_led t2 es1 (SetTable.grown es1.size)
    generalize relayAll t2 es1 (SetTable.grown es1.size) = Z at pm hf3 hr3 hl3 ⊢
    obtain ⟨es2, t3, gave⟩ := Z
    dsimp only at pm hf3 hr3 hl3 ⊢
    have hsz : es2.size = es1.size := by rw [← Array.length_toList, pm.length_eq, Array.length_toList]
    have hb2 : es2.size < scanBound := by rw [hsz]; exact hb1
    refine wpAny_bind (hg _ _ _ ?_)
    refine wpAny_bind (wpAny_storeSet_of ho1 rfl ?_ (fits_of_scanBound hb2))
    have ho2 := store_at (es' := es2) (t' := t3) ho1 rfl
    refine wpAny_pure (hR _ (sb1.trans (Heap.SameBut.update _ a _)) ?_)
    exact ⟨_, es2, _, t3, ho2, hex, rfl, fun e he => g1 e (pm.mem_iff.mp he), (pm.map keyS).trans p1, nd1, hb2, hf3, hr3, hl.imp id fun z => by rw [hl3]; exact z⟩
  · exact wpAny_pure (hR _ sb1 ⟨_, es1, _, t2, ho1, hex, rfl, g1, p1, nd1, hb1, hf2, hr, hl⟩)
theorem setS_add_hashed {k : Str} {tk : Tok} {Q : Bool → Shared → Prop} (R : SetS w s.heap a L) (room : L.length + 1 < scanBound)
    (hQ : ∀ h' b, Heap.SameBut a s.heap h' → SetS w h' a (addS L k) → Q b { s with heap := h' }) :
    wpAny (model P w) A (setAddHashed a (.str k tk) (hashStr w k)) Q E s := by
  obtain ⟨o, es, ep, t, ho, hex, hd, g, pL, nd, hb, hf, hr, hl⟩ := R
  have hkey : (PySem.strKind P w).is k (.str k tk) = true := strKind_is P w k tk
  have hsc : (Value.str k tk).scannable = true := rfl
  have hel : ElemsOf (PySem.strKind P w) es.toList := goodS_elems g
  unfold setAddHashed setAddHashedIn
  refine wpAny_holding (wpAny_bind (wpAny_setState_of ho hd hf ?_))
  dsimp only
  rw [byScan_of hsc hb hel]
  simp only [↓reduceIte]
  unfold setAddByScan
  refine wpAny_bind ?_
  refine wpAny_bind (wpAny_rule ?_)
  refine wpAny_bind (wpAny_setScan_of (knd := PySem.strKind P w) (k := k) hkey ho hd hf hel ?_)
  cases hfi : List.findIdx? (fun e => (PySem.strKind P w).is k e.2) es.toList with
  | some j =>
    dsimp only
    obtain ⟨hj, pj, _⟩ := List.findIdx?_eq_some_iff_getElem.mp hfi
    have hk : k ∈ L := pL.mem_iff.mp ((goodS_mem (P := P) (w := w) g k).2 ⟨es.toList[j], List.getElem_mem hj, pj⟩)
    refine wpAny_pure (wpAny_pure ?_)
    exact hQ s.heap _ (Heap.SameBut.refl a s.heap) (by unfold addS; rw [if_pos hk]; exact ⟨o, es, ep, t, ho, hex, hd, g, pL, nd, hb, hf, hr, hl⟩)
  | none =>
    dsimp only
    have hnk : k ∉ L := fun z => by
      obtain ⟨e, he, q⟩ := (goodS_mem (P := P) (w := w) g k).1 (pL.mem_iff.mpr z)
      have c := List.findIdx?_eq_none_iff.mp hfi e he
      rw [q] at c
      cases c
    have hgw : ∀ (b : Bool) {s₁ : Shared} {Q' : Unit → Shared → Prop}, Q' () s₁ → wpAny (model P w) A (match b with | true => rule "set.scan.the-table-gave-way" | false => pure ()) Q' E s₁ :=
      fun b s₁ Q' q => by cases b <;> first | exact wpAny_pure q | exact wpAny_rule q
    have pm := layNew_perm t es (hashStr w k) (.str k tk)
    have hf1 := layNew_fits t es (hashStr w k) (.str k tk)
    have hr1 := layNew_ris t es (hashStr w k) (.str k tk) hr
    have hl1 := layNew_led t es (hashStr w k) (.str k tk)
    generalize layNew t es (hashStr w k) (.str k tk) = Z at pm hf1 hr1 hl1 ⊢
    obtain ⟨es1, t1, wasDummy, gave⟩ := Z
    dsimp only at pm hf1 hr1 hl1 ⊢
    rw [Array.toList_push] at pm
    have pc : es1.toList.Perm ((hashStr w k, Value.str k tk) :: es.toList) := pm.trans (List.perm_append_singleton _ _)
    have pk : (es1.toList.map keyS).Perm (addS L k) := by
      unfold addS
      rw [if_neg hnk]
      exact (pc.map keyS).trans (List.Perm.trans (List.Perm.cons _ pL) (List.perm_append_singleton _ _).symm)
    have g1 : ∀ e ∈ es1.toList, GoodS w e := fun e he => by
      rcases List.mem_cons.mp (pc.mem_iff.mp he) with z | z
      · rw [z]; exact ⟨k, tk, rfl, rfl⟩
      · exact g e z
    have nd1 : (addS L k).Nodup := addS_nodup nd
    have hLs : es.size = L.length := by rw [← pL.length_eq, List.length_map, Array.length_toList]
    have hsz : es1.size = L.length + 1 := by rw [← Array.length_toList, pc.length_eq, List.length_cons, Array.length_toList, hLs]
    have hb1 : es1.size < scanBound := by rw [hsz]; exact room
    have hled : w.params.followText "set-order" = true ∨ t1.led = true := hl.imp id fun z => by rw [hl1]; exact z
    refine wpAny_bind (hgw _ ?_)
    split
    · refine wpAny_bind ?_
      rw [hashByValue_scannable 8 hsc]
      refine wpAny_pure ?_
      refine setS_add_tail ?_ ho hex hd g1 pk nd1 hb1 ?_ ?_ ?_ ?_
      · intro b s₁ Q' q; cases b <;> first | exact wpAny_pure q | exact wpAny_rule q
      · first | (split <;> first | exact hf1 | exact SetTable.fits_plain_off hf1) | exact hf1
      · first | (split <;> exact hr1) | exact hr1
      · first | (split <;> exact hled) | exact hled
      · intro h' sb r; dsimp only; exact wpAny_pure (hQ h' _ sb r)
    · refine wpAny_bind (wpAny_pure ?_)
      simp only [↓reduceIte]
      refine setS_add_tail ?_ ho hex hd g1 pk nd1 hb1 hf1 hr1 hled ?_
      · intro b s₁ Q' q; cases b <;> first | exact wpAny_pure q | exact wpAny_rule q
      · intro h' sb r; dsimp only; exact wpAny_pure (hQ h' _ sb r)
theorem setS_new_at {h : Heap} (ho : h.get? a = some { cls := .type "set", dict := none, data := .set #[] 0 (.fresh 0 0 (!w.params.followText "set-order")) }) : SetS w h a [] :=
  ⟨_, #[], 0, _, ho, ⟨rfl, rfl, rfl⟩, rfl, (fun e he => by simp at he), List.Perm.refl _, List.nodup_nil, (by decide), (by rfl), List.Pairwise.nil, by
    show _ ∨ (!w.params.followText "set-order") = true
    cases w.params.followText "set-order"
    · exact .inr rfl
    · exact .inl rfl⟩
theorem addS_len (L : List Str) (k : Str) : (addS L k).length ≤ L.length + 1 := by
  unfold addS
  split
  · omega
  · simp
theorem ddS_len_aux : ∀ (xs L : List Str), (xs.foldl addS L).length ≤ L.length + xs.length
  | [], L => by simp
  | x :: xs, L => by
    have := ddS_len_aux xs (addS L x)
    have := addS_len L x
    simp only [List.foldl_cons, List.length_cons]
    omega
theorem ddS_len (xs : List Str) : (ddS xs).length ≤ xs.length := by
  have := ddS_len_aux xs []
  simpa [ddS] using this
theorem set_update_txt {I : Addr} {fp wr : List Addr} {G : Array GenState → Array GenState → Prop} {n : Nat} {Pv : Nat → Value → Prop} {St : Nat → Shared → Prop} {R : Result → Shared → Prop}
    (W : WalksS P w A.in1 I fp wr G n Pv St) (S : Addr) (hSf : S ∉ fp) (ns : List Str) (hn : n = ns.length) (hb : ns.length + 1 < scanBound) (hval : ∀ i v, Pv i v → ∃ k t, ns[i]? = some k ∧ v = .str k t) :
    ∀ (k i : Nat) (s : Shared), n - i = k → i ≤ n → St i s → SetS w s.heap S (ddS (ns.take i)) →
      (∀ s', Moved (S :: wr) G s s' → SetS w s'.heap S (ddS ns) → R (.ok (.ret .none)) s') →
      codeAny (model P w) A (.builtin "set.update.loop" ⟨[.ref S, .ref I], []⟩) R s := by
  have hSw : S ∉ wr := fun h => hSf (W.sub _ h)
  have hsub : ∀ b ∈ wr, b ∈ S :: wr := fun b hb => List.mem_cons_of_mem _ hb
  intro k
  induction k with
  | zero =>
    intro i s hk' hi hst hS hR
    have hin : i = n := by omega
    subst hin
    refine codeAny_builtin F.entry_set_update_loop ?_
    rw [Around.under_plainId F.plain_set_update_loop _]
    show wpAny _ A.in1 (pyNext (.ref I) >>= _) _ _ s
    refine wpAny_bind (W.done s _ _ hst fun s' hm => ?_)
    show wpAny _ A.in1 (ret Value.none) _ _ s'
    have e : ns.take i = ns := List.take_of_length_le (by omega)
    rw [e] at hS
    exact wpAny_pure (hR s' (hm.mono hsub) (hS.at fun o e => hm.heap S o hSw e))
  | succ k ih =>
    intro i s hk' hi hst hS hR
    have hlt : i < n := by omega
    refine codeAny_builtin F.entry_set_update_loop ?_
    rw [Around.under_plainId F.plain_set_update_loop _]
    show wpAny _ A.in1 (pyNext (.ref I) >>= _) _ _ s
    refine wpAny_bind (W.item i s _ _ hlt hst fun v s' hP hst' hm => ?_)
    obtain ⟨z, t, hz, rfl⟩ := hval i v hP
    have hS' : SetS w s'.heap S (ddS (ns.take i)) := hS.at fun o e => hm.heap S o hSw e
    show wpAny _ A.in1 (holding [Value.str z t] (setAdd S (.str z t)) >>= _) _ _ s'
    refine wpAny_bind (wpAny_holding ?_)
    unfold setAdd
    refine wpAny_holding ?_
    refine wpAny_bind ((PySem.strKind P w).pyHash (k := z) (strKind_is _ _ _ _) ?_)
    have hlen : (ddS (ns.take i)).length + 1 < scanBound := by
      have := ddS_len (ns.take i)
      rw [List.length_take] at this
      omega
    refine setS_add_hashed (s := { s' with toks := s'.toks + 1 }) hS' hlen fun h' b hsb hS2 => ?_
    have hS3 : SetS w h' S (ddS (ns.take (i + 1))) := by
      have e : ddS (ns.take (i + 1)) = addS (ddS (ns.take i)) z := by
        rw [List.take_add_one, hz]
        simp [ddS, List.foldl_append]
      rw [e]
      exact hS2
    refine wpAny_pure ⟨plainId_quiet F.plain_set_update_loop _, ih (i + 1) _ (by omega) hlt (W.frame _ s' _ _ hst' (Nat.le_succ _) fun b hb o e => ?_) hS3 fun s'' hm'' hS'' => ?_⟩
    · rw [hsb.2 b (fun h : b = S => hSf (by rw [← h]; exact hb))]; exact e
    · refine hR s'' (Moved.trans W.gtrans ((hm.mono hsub).then_heap (Nat.le_succ _) fun b o hb e => ?_) hm'') hS''
      rw [hsb.2 b (fun h : b = S => hb (by rw [h]; exact List.mem_cons_self))]; exact e
end
end GH
set_option Elab.async false
set_option linter.all false
set_option maxRecDepth 100000
set_option maxHeartbeats 4000000
set_option autoImplicit false
/-! set(xs) of a tuple or a list of texts. -/
namespace GH
open PySem PySem.Spec PyProof.Rows L2
variable [TheWorld]
section
variable {P : Program} {w : World} {A : Around} {E : Value → Shared → Prop} {s : Shared}

set_option maxRecDepth 100000 in
set_option maxHeartbeats 3200000 in
theorem call_setSTup {l : Addr} {items : Array Value} (ns : List Str) {Q : Value → Shared → Prop} (hh : A.handled = none) (hl : s.heap.IsTuple l items) (hit : StrsAre items.toList ns) (hb : ns.length + 1 < scanBound)
    (h : ∀ (h' : Heap) (tk : Nat), SetS w h' s.heap.objs.size (ddS ns) → (∀ b o, s.heap.get? b = some o → h'.get? b = some o) → Q (.ref s.heap.objs.size) { s with heap := h', toks := tk }) :
    wpAny (model P w) A (call (.type "set") [.ref l]) Q E s := by
  have hisz : items.size = ns.length := by
    have q := StrsAre.len_eq hit
    rw [Array.length_toList] at q
    exact q
  obtain ⟨c, tl, hmro⟩ := F.called_set.mro
  have hmade := F.called_set.made
  have hsub := F.called_set.sub
  refine wpAny_call (codeAny_of_tree ?_)
  show wpAny _ _ (callAny (.type "set") _) _ _ _
  refine wpAny_pure ⟨Code.quiet_builtin _ (by decide +kernel), codeAny_builtin F.entry_type_call ?_⟩
  rw [Around.under_plain (weight_type_call_type "set" [.ref l] []) rfl]
  have h1 := F.called_set.notType
  have h2 := F.called_set.canCreate
  have hct := F.typeCall_set_1 (.ref l)
  repeat (any_goals (first | assumption | wp_step))

  refine codeAny_mono (code_set_led1 (.ref l) (E := E) (Q₁ := fun obj s₁ => obj = .ref s.heap.objs.size ∧ s₁ = { s with heap := s.heap.push { cls := .type "set", dict := none, data := .set #[] 0 (.fresh 0 0 (!w.params.followText "set-order")) } }) ⟨rfl, rfl⟩) fun r s₁ hr => ?_
  cases r with
  | error e => exact hr
  | ok fl =>
    cases fl with
    | ret obj =>
      obtain ⟨rfl, rfl⟩ := hr
      have hS : (s.heap.push { cls := .type "set", dict := none, data := .set #[] 0 (.fresh 0 0 (!w.params.followText "set-order")) }).get? s.heap.objs.size = some { cls := .type "set", dict := none, data := .set #[] 0 (.fresh 0 0 (!w.params.followText "set-order")) } := Heap.get?_push_size _ rfl
      have hT : Shared.TypeIs { s with heap := s.heap.push { cls := .type "set", dict := none, data := .set #[] 0 (.fresh 0 0 (!w.params.followText "set-order")) } } (.ref s.heap.objs.size) "set" := ⟨_, hS, rfl⟩
      have hli := F.called_set.init.lookup
      have hbi := F.called_set.init.bind (.ref s.heap.objs.size)
      repeat (any_goals (first | assumption | wp_step))

      refine codeAny_mono (codeAny_call_builtin (R := wants (fun r s₂ => r = .none ∧ ∃ h' tk, s₂ = { s with heap := h', toks := tk } ∧ SetS w h' s.heap.objs.size (ddS ns) ∧
          (∀ b o, s.heap.get? b = some o → h'.get? b = some o)) E) F.called_set.init.plain F.entry_set_init (check_set_init_1 hT ?_)) fun r₂ s₂ hr₂ => ?_
      · obtain ⟨ol, hol, hcl, nl, hdl⟩ := hl
        obtain ⟨ocls, odict, odata, oslots⟩ := ol
        simp only at hcl hdl
        subst hcl; subst hdl
        have hol' : (s.heap.push { cls := .type "set", dict := none, data := .set #[] 0 (.fresh 0 0 (!w.params.followText "set-order")) }).get? l = some { cls := .type "tuple", dict := odict, data := .seq items nl, slots := oslots } := Heap.get?_push_of_some _ hol
        have hsls := F.sub_tuple_set
        have hslf := F.sub_tuple_frozenset
        have hne : (Value.type "tuple" == Value.type "dict") = false := by decide
        have hl1 : (s.heap.push { cls := .type "set", dict := none, data := .set #[] 0 (.fresh 0 0 (!w.params.followText "set-order")) }).IsTuple l items := ⟨_, hol', rfl, nl, rfl⟩
        unfold Builtin.«set.__init__» noKeywords Builtin.Frozenset.updateFrom
        generalize hPI : pyIter = PI
        wp_walk
        subst hPI

        refine wpAny_pyIter_tuple hl1 ?_
        refine wpAny_bind (wpAny_runValue ?_)
        have hlS : l < s.heap.objs.size := Heap.lt_size hol
        have hh3 : A.in1.in1.in1.handled = none := by simp [hh]
        have hz1 : (s.heap.push { cls := .type "set", dict := none, data := .set #[] 0 (.fresh 0 0 (!w.params.followText "set-order")) }).objs.size = s.heap.objs.size + 1 := Heap.size_push ..
        have hneI : l ≠ (s.heap.push { cls := .type "set", dict := none, data := .set #[] 0 (.fresh 0 0 (!w.params.followText "set-order")) }).objs.size := by
          rw [Heap.size_push]; exact Nat.ne_of_lt (Nat.lt_succ_of_lt hlS)
        have hSf : s.heap.objs.size ∉ [(s.heap.push { cls := .type "set", dict := none, data := .set #[] 0 (.fresh 0 0 (!w.params.followText "set-order")) }).objs.size, l] := by
          rw [Heap.size_push]; simp only [List.mem_cons, List.mem_singleton, List.not_mem_nil, or_false, not_or]
          exact ⟨Nat.ne_of_lt (Nat.lt_succ_self _), Nat.ne_of_gt hlS⟩
        have hval : ∀ (i : Nat) (v : Value), items[i]? = some v → ∃ k t, ns[i]? = some k ∧ v = .str k t := fun i v hv => by
          have hi : i < ns.length := by rw [← hisz]; exact (Array.getElem?_eq_some_iff.mp hv).1
          obtain ⟨t, e⟩ := SS.strs_at hit i v (by rw [Array.getElem?_toList]; exact hv)
          refine ⟨ns[i], t, List.getElem?_eq_getElem hi, ?_⟩
          rw [e, List.getD_eq_getElem?_getD, List.getElem?_eq_getElem hi] <;> rfl
        refine set_update_txt ((Walks.tuple hh3 _ l hneI items).toS) s.heap.objs.size
          hSf ns hisz hb hval (items.size - 0) 0 _ (by omega) (Nat.zero_le _)
          ⟨⟨_, Heap.get?_push_size _ rfl, rfl, rfl⟩, (hl1.push _)⟩ ?hS0 ?hR
        case hS0 =>
          have hget : ((s.heap.push { cls := .type "set", dict := none, data := .set #[] 0 (.fresh 0 0 (!w.params.followText "set-order")) }).push { cls := .type "tuple_iterator", data := .fields #[.ref l, .int 0 0] }).get? s.heap.objs.size
              = some { cls := .type "set", dict := none, data := .set #[] 0 (.fresh 0 0 (!w.params.followText "set-order")) } := Heap.get?_push_of_some _ hS
          exact setS_new_at hget
        case hR =>
          intro s' hm hS'
          obtain ⟨h', g2, d', tk', os'⟩ := s'
          have eg : g2 = s.gens := hm.gens
          have ed : d' = s.drawn := hm.drawn
          have eo : os' = s.os := hm.os
          subst eg; subst ed; subst eo
          show wpAny _ _ _ _ _ _
          refine wpAny_pure ?_
          show wpAny _ _ (ret Value.none) _ _ _
          refine wpAny_pure ⟨rfl, h', tk', rfl, hS', fun b o e => ?_⟩
          have hb0 : b < s.heap.objs.size := Heap.lt_size e
          have hb1 : b ≠ s.heap.objs.size := Nat.ne_of_lt hb0
          have hb2 : b ≠ (s.heap.push { cls := .type "set", dict := none, data := .set #[] 0 (.fresh 0 0 (!w.params.followText "set-order")) }).objs.size := by
            rw [Heap.size_push]; exact Nat.ne_of_lt (Nat.lt_succ_of_lt hb0)
          exact hm.heap b o (by simp only [List.mem_cons, List.mem_singleton, List.not_mem_nil, or_false, not_or]; exact ⟨hb1, hb2⟩) (Heap.get?_push_of_some _ (Heap.get?_push_of_some _ e))

      · cases r₂ with
        | error e => exact hr₂
        | ok fl₂ =>
          cases fl₂ with
          | ret r =>
            obtain ⟨rfl, h', tk, rfl, hS', hk'⟩ := hr₂
            repeat (any_goals (first | assumption | wp_step))
            exact h _ _ hS' hk'
          | _ => exact hr₂.elim
    | _ => exact hr.elim

set_option maxRecDepth 100000 in
set_option maxHeartbeats 3200000 in
theorem call_setSLst {l : Addr} {items : Array Value} (ns : List Str) {Q : Value → Shared → Prop} (hh : A.handled = none) (hl : s.heap.IsList l items) (hit : StrsAre items.toList ns) (hb : ns.length + 1 < scanBound)
    (h : ∀ (h' : Heap) (tk : Nat), SetS w h' s.heap.objs.size (ddS ns) → (∀ b o, s.heap.get? b = some o → h'.get? b = some o) → Q (.ref s.heap.objs.size) { s with heap := h', toks := tk }) :
    wpAny (model P w) A (call (.type "set") [.ref l]) Q E s := by
  have hisz : items.size = ns.length := by
    have q := StrsAre.len_eq hit
    rw [Array.length_toList] at q
    exact q
  obtain ⟨c, tl, hmro⟩ := F.called_set.mro
  have hmade := F.called_set.made
  have hsub := F.called_set.sub
  refine wpAny_call (codeAny_of_tree ?_)
  show wpAny _ _ (callAny (.type "set") _) _ _ _
  refine wpAny_pure ⟨Code.quiet_builtin _ (by decide +kernel), codeAny_builtin F.entry_type_call ?_⟩
  rw [Around.under_plain (weight_type_call_type "set" [.ref l] []) rfl]
  have h1 := F.called_set.notType
  have h2 := F.called_set.canCreate
  have hct := F.typeCall_set_1 (.ref l)
  repeat (any_goals (first | assumption | wp_step))

  refine codeAny_mono (code_set_led1 (.ref l) (E := E) (Q₁ := fun obj s₁ => obj = .ref s.heap.objs.size ∧ s₁ = { s with heap := s.heap.push { cls := .type "set", dict := none, data := .set #[] 0 (.fresh 0 0 (!w.params.followText "set-order")) } }) ⟨rfl, rfl⟩) fun r s₁ hr => ?_
  cases r with
  | error e => exact hr
  | ok fl =>
    cases fl with
    | ret obj =>
      obtain ⟨rfl, rfl⟩ := hr
      have hS : (s.heap.push { cls := .type "set", dict := none, data := .set #[] 0 (.fresh 0 0 (!w.params.followText "set-order")) }).get? s.heap.objs.size = some { cls := .type "set", dict := none, data := .set #[] 0 (.fresh 0 0 (!w.params.followText "set-order")) } := Heap.get?_push_size _ rfl
      have hT : Shared.TypeIs { s with heap := s.heap.push { cls := .type "set", dict := none, data := .set #[] 0 (.fresh 0 0 (!w.params.followText "set-order")) } } (.ref s.heap.objs.size) "set" := ⟨_, hS, rfl⟩
      have hli := F.called_set.init.lookup
      have hbi := F.called_set.init.bind (.ref s.heap.objs.size)
      repeat (any_goals (first | assumption | wp_step))

      refine codeAny_mono (codeAny_call_builtin (R := wants (fun r s₂ => r = .none ∧ ∃ h' tk, s₂ = { s with heap := h', toks := tk } ∧ SetS w h' s.heap.objs.size (ddS ns) ∧
          (∀ b o, s.heap.get? b = some o → h'.get? b = some o)) E) F.called_set.init.plain F.entry_set_init (check_set_init_1 hT ?_)) fun r₂ s₂ hr₂ => ?_
      · obtain ⟨ol, hol, hcl, nl, hdl⟩ := hl
        obtain ⟨ocls, odict, odata, oslots⟩ := ol
        simp only at hcl hdl
        subst hcl; subst hdl
        have hol' : (s.heap.push { cls := .type "set", dict := none, data := .set #[] 0 (.fresh 0 0 (!w.params.followText "set-order")) }).get? l = some { cls := .type "list", dict := odict, data := .seq items nl, slots := oslots } := Heap.get?_push_of_some _ hol
        have hsls := F.sub_list_set
        have hslf := F.sub_list_frozenset
        have hne : (Value.type "list" == Value.type "dict") = false := by decide
        have hl1 : (s.heap.push { cls := .type "set", dict := none, data := .set #[] 0 (.fresh 0 0 (!w.params.followText "set-order")) }).IsList l items := ⟨_, hol', rfl, nl, rfl⟩
        unfold Builtin.«set.__init__» noKeywords Builtin.Frozenset.updateFrom
        generalize hPI : pyIter = PI
        wp_walk
        subst hPI

        refine wpAny_pyIter_list hl1 ?_
        refine wpAny_bind (wpAny_runValue ?_)
        have hlS : l < s.heap.objs.size := Heap.lt_size hol
        have hh3 : A.in1.in1.in1.handled = none := by simp [hh]
        have hz1 : (s.heap.push { cls := .type "set", dict := none, data := .set #[] 0 (.fresh 0 0 (!w.params.followText "set-order")) }).objs.size = s.heap.objs.size + 1 := Heap.size_push ..
        have hneI : l ≠ (s.heap.push { cls := .type "set", dict := none, data := .set #[] 0 (.fresh 0 0 (!w.params.followText "set-order")) }).objs.size := by
          rw [Heap.size_push]; exact Nat.ne_of_lt (Nat.lt_succ_of_lt hlS)
        have hSf : s.heap.objs.size ∉ [(s.heap.push { cls := .type "set", dict := none, data := .set #[] 0 (.fresh 0 0 (!w.params.followText "set-order")) }).objs.size, l] := by
          rw [Heap.size_push]; simp only [List.mem_cons, List.mem_singleton, List.not_mem_nil, or_false, not_or]
          exact ⟨Nat.ne_of_lt (Nat.lt_succ_self _), Nat.ne_of_gt hlS⟩
        have hval : ∀ (i : Nat) (v : Value), items[i]? = some v → ∃ k t, ns[i]? = some k ∧ v = .str k t := fun i v hv => by
          have hi : i < ns.length := by rw [← hisz]; exact (Array.getElem?_eq_some_iff.mp hv).1
          obtain ⟨t, e⟩ := SS.strs_at hit i v (by rw [Array.getElem?_toList]; exact hv)
          refine ⟨ns[i], t, List.getElem?_eq_getElem hi, ?_⟩
          rw [e, List.getD_eq_getElem?_getD, List.getElem?_eq_getElem hi] <;> rfl
        refine set_update_txt ((Walks.list hh3 _ l hneI items).toS) s.heap.objs.size
          hSf ns hisz hb hval (items.size - 0) 0 _ (by omega) (Nat.zero_le _)
          ⟨⟨_, Heap.get?_push_size _ rfl, rfl, rfl⟩, (hl1.push _)⟩ ?hS0 ?hR
        case hS0 =>
          have hget : ((s.heap.push { cls := .type "set", dict := none, data := .set #[] 0 (.fresh 0 0 (!w.params.followText "set-order")) }).push { cls := .type "list_iterator", data := .fields #[.ref l, .int 0 0] }).get? s.heap.objs.size
              = some { cls := .type "set", dict := none, data := .set #[] 0 (.fresh 0 0 (!w.params.followText "set-order")) } := Heap.get?_push_of_some _ hS
          exact setS_new_at hget
        case hR =>
          intro s' hm hS'
          obtain ⟨h', g2, d', tk', os'⟩ := s'
          have eg : g2 = s.gens := hm.gens
          have ed : d' = s.drawn := hm.drawn
          have eo : os' = s.os := hm.os
          subst eg; subst ed; subst eo
          show wpAny _ _ _ _ _ _
          refine wpAny_pure ?_
          show wpAny _ _ (ret Value.none) _ _ _
          refine wpAny_pure ⟨rfl, h', tk', rfl, hS', fun b o e => ?_⟩
          have hb0 : b < s.heap.objs.size := Heap.lt_size e
          have hb1 : b ≠ s.heap.objs.size := Nat.ne_of_lt hb0
          have hb2 : b ≠ (s.heap.push { cls := .type "set", dict := none, data := .set #[] 0 (.fresh 0 0 (!w.params.followText "set-order")) }).objs.size := by
            rw [Heap.size_push]; exact Nat.ne_of_lt (Nat.lt_succ_of_lt hb0)
          exact hm.heap b o (by simp only [List.mem_cons, List.mem_singleton, List.not_mem_nil, or_false, not_or]; exact ⟨hb1, hb2⟩) (Heap.get?_push_of_some _ (Heap.get?_push_of_some _ e))

      · cases r₂ with
        | error e => exact hr₂
        | ok fl₂ =>
          cases fl₂ with
          | ret r =>
            obtain ⟨rfl, h', tk, rfl, hS', hk'⟩ := hr₂
            repeat (any_goals (first | assumption | wp_step))
            exact h _ _ hS' hk'
          | _ => exact hr₂.elim
    | _ => exact hr.elim
end
end GH
set_option Elab.async false
set_option linter.all false
set_option maxRecDepth 100000
set_option maxHeartbeats 4000000
set_option autoImplicit false
/-! sorted(set(xs)), texts. -/
namespace GH
open PySem PySem.Spec PyProof.Rows L2 PySem.W PySem.Calls
variable [TheWorld]
def leS (a b : Str) : Bool := decide (a.cps.toList ≤ b.cps.toList)
theorem sortS_perm {bs L : List Str} (p : bs.Perm L) : bs.mergeSort leS = L.mergeSort leS := by
  have tr : ∀ a b c : Str, leS a b = true → leS b c = true → leS a c = true := fun a b c h1 h2 => by
    simp only [leS, decide_eq_true_eq] at *
    exact List.le_trans h1 h2
  have to : ∀ a b : Str, (leS a b || leS b a) = true := fun a b => by
    simp only [leS, Bool.or_eq_true, decide_eq_true_eq]
    exact List.le_total _ _
  refine List.Perm.eq_of_pairwise (le := fun a b => leS a b = true) (fun a b _ _ h1 h2 => ?_) (List.pairwise_mergeSort tr to bs) (List.pairwise_mergeSort tr to L) (((List.mergeSort_perm bs leS).trans p).trans (List.mergeSort_perm L leS).symm)
  simp only [leS, decide_eq_true_eq] at h1 h2
  have := List.le_antisymm h1 h2
  cases a; cases b
  simp only [Str.mk.injEq]
  exact Array.toList_inj.mp this
def IsS (v : Value) (k : Str) : Prop := ∃ t, v = .str k t
section
variable {P : Program} {w : World} {A : Around} {E : Value → Shared → Prop} {s : Shared} {a : Addr} {L : List Str}
theorem each_isS : ∀ (vs : List Value), (∀ v ∈ vs, ∃ k t, v = Value.str k t) → EachIs IsS vs (vs.map fun v => keyS (0, v))
  | [], _ => .nil
  | v :: vs, h => by
    obtain ⟨k, t, rfl⟩ := h v (List.mem_cons_self ..)
    exact .cons ⟨t, rfl⟩ (each_isS vs fun u hu => h u (List.mem_cons_of_mem _ hu))
theorem sorted_setS {Q : Value → Shared → Prop} (R : SetS w s.heap a L) (hh : A.handled = none) (h64 : L.length < 4000) (hu : A.units + 10 < cLine)
    (hQ : ∀ s' p (out : List Value) (c : Nat), (∀ b o, s.heap.get? b = some o → s'.heap.get? b = some o) → s'.gens = s.gens → s'.os = s.os → s.heap.objs.size ≤ p →
      s'.heap.get? p = some (seqObj "list" out.toArray c) → EachIs IsS out (L.mergeSort leS) → Q (.ref p) s') :
    wpAny (model P w) A (call (.builtin "sorted") [.ref a]) Q E s := by
  obtain ⟨o, es, ep, t, ho, hex, hd, g, pL, nd, hb, hf, hr, hl⟩ := R
  refine Calls.call_function_entry kind_sorted plain_sorted entry_sorted (args_sorted1 _) ?_
  unfold Builtin.«sorted»
  refine wpAny_bind (m := checkCount "sorted" 1 1 _) (wpAny_pure ?_)
  refine wpAny_bind (collect_set (A := A.in1) hh ⟨o, ho, hex.1, hd⟩ hf hb hr hl fun s1 vs k1 hz g1 o1 pm => ?_)
  have hvl : vs.length = L.length := by rw [pm.length_eq, List.length_map, ← pL.length_eq, List.length_map]
  have e := each_isS vs fun v hv => by
    obtain ⟨e, he, q⟩ := List.mem_map.mp (pm.mem_iff.mp hv)
    obtain ⟨k, tk, h1, _⟩ := g e he
    exact ⟨k, tk, by rw [← q]; exact h1⟩
  have pk : (vs.map fun v => keyS (0, v)).Perm L := by
    have q := pm.map fun v => keyS (0, v)
    rw [List.map_map] at q
    exact q.trans pL
  have hsl : vs.length ≤ sizeLine := by rw [hvl, sizeLine_eq]; omega
  refine wpAny_bind (wpAny_newList ?_ hsl)
  have hoL : (s1.heap.push (seqObj "list" vs.toArray 0)).get? s1.heap.objs.size = some (seqObj "list" vs.toArray 0) := Heap.get?_push_size _ rfl
  have er : ∀ h : Heap, EachIs (fun v b => ∃ as, Reads h v (PyData.str b) as) vs (vs.map fun v => keyS (0, v)) := fun h => e.mono fun v b ⟨t, q⟩ => ⟨[], by rw [q]; exact .str _ _⟩
  have hal : AllAlike ((vs.map fun v => keyS (0, v)).map PyData.str) := AllAlike.of fun b b' => by simp [alike]
  have hk : Sortable ((vs.map fun v => keyS (0, v)).map PyData.str) := Sortable.others fun b => ⟨by simp, by simp⟩
  refine wpAny_bind (wpAny_holding (wpAny_call_entry slot_list_sort ⟨_, hoL, rfl⟩ entry_list_sort
    (list_sort_vals (s := { s1 with heap := s1.heap.push (seqObj "list" vs.toArray 0) }) hoL (SortsAt.data (each_map (R := fun v d => ∃ as, Reads _ v d as) PyData.str (er _)) hal hk (bound_map fun b hb => ?_)) hsl ⟨_, rfl, ?_⟩) (args_list_sort _)))
  · simp [PyData.depth]
    omega
  · obtain ⟨c, hc⟩ := sortedHeap_at (vs := vs) (out := (sortVals (dataKind (sortingHeap (s1.heap.push (seqObj "list" vs.toArray 0)) s1.heap.objs.size vs) ((vs.map fun v => keyS (0, v)).map PyData.str)) false vs vs).toArray) hoL
    have q := sortVals_data false e (er (sortingHeap (s1.heap.push (seqObj "list" vs.toArray 0)) s1.heap.objs.size vs)) hal
    rw [dataLe_str (fun b : Str => b)] at q
    have q2 : EachIs IsS _ (L.mergeSort leS) := sortS_perm pk ▸ q
    refine wpAny_pure ⟨_, rfl, hQ _ s1.heap.objs.size _ c (fun b u eb => ?_) g1 o1 hz hc q2⟩
    have q := k1 b u eb
    have hlt := Heap.lt_size q
    show (sortedHeap (s1.heap.push (seqObj "list" vs.toArray 0)) s1.heap.objs.size vs _).get? b = some u
    rw [sortedHeap_old (Nat.ne_of_lt hlt) (by rw [size_push']; exact Nat.lt_succ_of_lt hlt)]
    exact Heap.get?_push_of_some _ q
end
end GH
set_option Elab.async false
set_option linter.all false
set_option maxRecDepth 100000
set_option maxHeartbeats 4000000
set_option autoImplicit false
/-! sorted(set(xs)), texts: the rule. -/
namespace GH
open PySem PySem.Spec PyProof.Rows L2
variable [TheWorld]
def SetSO (w : World) (a : Addr) (L : List Str) : HO := .ext fun h => SetS w h a L
section
variable {X : Cx} {W : WX}
theorem setSO_new {w : World} {P : Program} {H : Hp} {h : Heap} {a : Addr} {L : List Str} (R : SetS w h a L) : ObjOk P w H h a (SetSO w a L) := by
  have ⟨o, _, _, _, ho, _⟩ := R
  exact ⟨R, ⟨o, ho⟩, fun h1 h2 p k => SetS.at p k⟩
theorem setSO_get {pins : List (Addr × Obj)} {σ : L2.St} {H : Hp} {s : Shared} {a : Addr} {L : List Str} (I : Inv X pins σ H s) (ha : H a = some (SetSO X.w a L)) : SetS X.w s.heap a L := (I.hok a _ ha).1
def rSetS (K : PySem.W.Frag) (w : World) : List V → Hp → VK → Prop := fun xs H Q => ∃ (l : Addr) (ns : List Str), xs = [V.ref l] ∧ (SqL K H l (ns.map V.str) ∨ SqT K H l (ns.map V.str)) ∧ ns.length < 4000 ∧
  ∀ p, H p = none → Q (.ref p) (upd H p (SetSO w p (ddS ns)))
theorem cr_setS (hc : X.calm = true) : CallR X (.type "set") (rSetS X.K X.w) := by
  intro pins s σ H vs us Q I r h
  obtain ⟨l, ns, rfl, hq, hl, q⟩ := h
  rw [Vals.ref1 r]
  have hd := I.ok.hd hc
  rcases hq with hq | hq
  · obtain ⟨its, rv, pt, hz⟩ := I.list hq
    refine call_setSLst ns hd pt.isList (strsAre_of rv) (by unfold scanBound; omega) fun h' tk R k => ?_
    have hn : H s.heap.objs.size = none := I.hok.fresh (Nat.le_refl _)
    exact ⟨.ref _, upd H s.heap.objs.size (SetSO X.w s.heap.objs.size (ddS ns)), I.laid (t' := tk) k (Nat.le_refl _) (setSO_new R), rfl, q _ hn⟩
  · obtain ⟨its, rv, pt, hz⟩ := I.tuple hq
    refine call_setSTup ns hd pt (strsAre_of rv) (by unfold scanBound; omega) fun h' tk R k => ?_
    have hn : H s.heap.objs.size = none := I.hok.fresh (Nat.le_refl _)
    exact ⟨.ref _, upd H s.heap.objs.size (SetSO X.w s.heap.objs.size (ddS ns)), I.laid (t' := tk) k (Nat.le_refl _) (setSO_new R), rfl, q _ hn⟩
def rSortedS (w : World) : List V → Hp → VK → Prop := fun vs H Q => ∃ (a : Addr) (L : List Str), vs = [V.ref a] ∧ H a = some (SetSO w a L) ∧ L.length < 4000 ∧ ∀ p, H p = none → Q (.ref p) (upd H p (.lst ((L.mergeSort leS).map V.str)))
theorem vals_isS : ∀ {out : List Value} {l : List Str}, PySem.W.EachIs IsS out l → Vals (l.map V.str) out
  | _, _, .nil => .nil
  | _, _, .cons ⟨t, e⟩ r => .cons (e ▸ ⟨t, rfl⟩) (vals_isS r)
theorem cr_sortedS (hc : X.calm = true) (hu : X.A.units + 200 < cLine) : CallR X (.builtin "sorted") (rSortedS X.w) := by
  intro pins s σ H vs us Q I r h
  obtain ⟨a, L, rfl, ha, h64, q⟩ := h
  have R := setSO_get I ha
  rw [Vals.ref1 r]
  refine sorted_setS R (I.ok.hd hc) h64 (by omega) fun s' p out c k g o hp hg hi => ?_
  have hlen : ((L.mergeSort leS).map V.str).length ≤ sizeLine := by rw [List.length_map, List.length_mergeSort, sizeLine_eq]; omega
  have hn : H p = none := I.hok.fresh hp
  have J : Inv X pins σ (upd H p (.lst ((L.mergeSort leS).map V.str))) { s with heap := s'.heap, gens := s'.gens, drawn := s'.drawn, toks := s'.toks } :=
    I.call (ch := []) (Un.laid k hp hn) (I.hok.laid k hp ⟨hlen, out, c, vals_isS hi, hg⟩) (by rw [g]; exact I.bare) (fun _ z => nomatch z)
  have e : s' = { s with heap := s'.heap, gens := s'.gens, drawn := s'.drawn, toks := s'.toks } := by
    cases s'
    cases s
    cases o
    rfl
  rw [e]
  exact ⟨.ref p, _, J, rfl, q p hn⟩
theorem VRs_strs {K : PySem.W.Frag} {g : Gh} {H : Hp} : ∀ (l : List Str), VRs K g H (l.map fun s => Val.str s.cps.toList) (l.map V.str)
  | [] => VRs.nil
  | s :: l => VRs.cons (by simp only [VR]; exact congrArg V.str (by cases s; rfl)) (VRs_strs l)
noncomputable def sortSet (ys : List (List Nat)) : List Val := ((ddS (ys.map sOf)).mergeSort leS).map fun s => Val.str s.cps.toList
noncomputable def vSortSet (v : Val) (h : Hv) : Res Val := match seqOf h v with
  | some l => match strsOf l with
    | some ys => if ys.length < 4000 then .ok (.lst (sortSet ys)) h else .fail
    | none => .fail
  | none => .fail
theorem ge_sortSet {e : Expr} {d : Den} {p p2 q pos : Pos} (hc : X.calm = true) (hu : X.A.units + 200 < cLine) (he : GE X W e d) (hm : X.mg "sorted" = none) (hm2 : X.mg "set" = none) (hg : Gl X "sorted" := by rfl) (hg2 : Gl X "set" := by rfl)
    (hst2 : starEach [e] X.env = (false, eval e X.env) :: starEach [] X.env := by rfl) (hpl2 : (backTo q (starEach [] X.env)).any (·.1) = false := by rfl)
    (hst : starEach [.Call (.Name "set" p2) [e] [] q] X.env = (false, eval (.Call (.Name "set" p2) [e] [] q) X.env) :: starEach [] X.env := by rfl) (hpl : (backTo pos (starEach [] X.env)).any (·.1) = false := by rfl) :
    GE X W (.Call (.Name "sorted" p) [.Call (.Name "set" p2) [e] [] q] [] pos) (dFn vSortSet d) := by
  refine PE.imp (pe_callB (cr_sortedS hc hu) hg hm PyProof.Rows.boot_sorted (pa_cons (pe_callTy (cr_setS hc) hg2 hm2 PyProof.Rows.boot_set (pa_cons he pa_nil hst2) (by decide +kernel) (by decide +kernel) hst2 hpl2) pa_nil hst) (by decide +kernel) (by decide +kernel) hst hpl) fun σ H Q ⟨g, l, h, S, R, A⟩ => ?_
  refine tG_of S R A fun v h1 g1 H1 x E1 S1 R1 r1 A1 => ?_
  unfold vSortSet at A1
  split at A1
  · rename_i l1 hl
    split at A1
    · rename_i ys hy
      split at A1
      · rename_i hz
        obtain ⟨a, xs, rfl, s, rs⟩ := seqOf_ok R1 r1 hl
        have e := strsOf_ok hy rs
        rw [e] at s
        refine ⟨a, ys.map sOf, rfl, by first | exact s | exact s.symm, by rw [List.length_map]; exact hz, fun p np => ?_⟩
        obtain ⟨E4, R4⟩ := R1.grow (o := SetSO X.w p (ddS (ys.map sOf))) np
        have hl2 : (ddS (ys.map sOf)).length < 4000 := by have := ddS_len (ys.map sOf); rw [List.length_map] at this; omega
        refine ⟨p, _, rfl, upd_same, hl2, fun p' np' => ?_⟩
        obtain ⟨E5, R5⟩ := R4.grow (o := .lst (((ddS (ys.map sOf)).mergeSort leS).map V.str)) np'
        refine A1 g1 _ (.ref p') (E4.trans E5) R5 ?_
        simp only [VR]
        exact ⟨p', _, rfl, R4.fresh np', upd_same, VRs_strs _⟩
      · exact A1.elim
    · exact A1.elim
  · exact A1.elim
end
end GH
set_option Elab.async false
set_option linter.all false
set_option maxRecDepth 100000
set_option maxHeartbeats 1000000
set_option autoImplicit false
/-! steps of plain reasoning, for every law. -/
namespace GH
open PySem
variable [TheWorld]
section
variable {l : GH.Loc} {h h1 : Hv} {P : Post} {rest a b : Stm} {d : Den} {i : Nat} {v : Val} {w u : List Nat} {c : Bool}
theorem asg_ (e : d l h = .ok v h1) (z : sok (rest (l.set i (some v)) h1) P) : sok (sSeq (sAsg d (gName i)) rest l h) P := by
  rw [e_seq, sok_then, e_asg, e]
  exact z
theorem ret_ (z : ok (d l h) P.rt) : sok (sSeq (sRet d) rest l h) P := by
  rw [e_seq, sok_then, e_ret, sok_to]
  exact z
theorem skip_ (hl : l[i]? = some (some (.str u))) (hne : u ≠ w) (z : sok (rest l h) P) : sok (sSeq (sIf (dB (dBin vEq (dVar i) (dC (.str w)))) a sNext) rest l h) P := by
  rw [e_seq, sok_then]
  simp only [e_if, e_b, e_bin, dVar, hl, Res.bind_ok, e_c, vEq_str, resB_bl, Res.to_ok, hne, decide_false, Bool.false_eq_true, if_false, e_next, sok_nx]
  exact z
theorem hit_ (hl : l[i]? = some (some (.str w))) (z : ok (d l h) P.rt) : sok (sSeq (sIf (dB (dBin vEq (dVar i) (dC (.str w)))) (sSeq (sRet d) sNext) sNext) rest l h) P := by
  rw [e_seq, sok_then]
  simp only [e_if, e_b, e_bin, dVar, hl, Res.bind_ok, e_c, vEq_str, resB_bl, Res.to_ok, decide_true, if_true]
  exact ret_ z
theorem if_ {t : DenG Bool} (e : t l h = .ok c h) (z1 : c = true → sok (a l h) { P with nx := fun l h => sok (rest l h) P }) (z2 : c = false → sok (rest l h) P) : sok (sSeq (sIf t a sNext) rest l h) P := by
  rw [e_seq, sok_then]
  simp only [e_if, e, Res.to_ok]
  cases c with
  | true => simpa using z1 rfl
  | false => simpa using z2 rfl
/-- a test that may call -/
theorem ifk_ {t : DenG Bool} (e : ok (t l h) fun c h1 => (c = true → sok (a l h1) { P with nx := fun l h => sok (rest l h) P }) ∧ (c = false → sok (rest l h1) P)) : sok (sSeq (sIf t a sNext) rest l h) P := by
  rw [e_seq, sok_then, e_if, sok_to]
  refine ok_imp e fun c h1 z => ?_
  cases c with
  | true => simpa using z.1 rfl
  | false => simpa using z.2 rfl
theorem asgk_ (z : ok (d l h) fun v h1 => sok (rest (l.set i (some v)) h1) P) : sok (sSeq (sAsg d (gName i)) rest l h) P := by
  rw [e_seq, sok_then, e_asg, sok_to]
  exact z
theorem asgq_ (Q : Val → Hv → Prop) (a : ok (d l h) Q) (z : ∀ v h1, Q v h1 → sok (rest (l.set i (some v)) h1) P) : sok (sSeq (sAsg d (gName i)) rest l h) P := asgk_ (ok_imp a z)
theorem sok_seqo (R : GH.Loc → Hv → Prop) (h1 : ∀ R' : GH.Loc → Hv → Prop, (∀ l h, R l h → R' l h) → sok (a l h) { P with nx := R' }) (h2 : ∀ l h, R l h → sok (b l h) P) : sok (sSeq a b l h) P := sok_seq R (h1 R fun _ _ z => z) h2
theorem asgo_ (Q : Val → Hv → Prop) (a : ∀ Q' : Val → Hv → Prop, (∀ v h, Q v h → Q' v h) → ok (d l h) Q') (z : ∀ v h1, Q v h1 → sok (rest (l.set i (some v)) h1) P) : sok (sSeq (sAsg d (gName i)) rest l h) P := asgq_ Q (a Q fun _ _ z => z) z
end
theorem forL_invo {t : Tg} {b : Stm} {s : Src} {P : Post} (I : List Val → GH.Loc → Hv → Prop)
    (step : ∀ I' : List Val → GH.Loc → Hv → Prop, (∀ x l h, I x l h → I' x l h) → ∀ x r l h, I (x :: r) l h → srcOk s h ∧ tok (t x l h) fun l1 h1 => sok (b l1 h1) { nx := fun l2 h2 => I' r l2 h2, ct := fun l2 h2 => I' r l2 h2, bk := P.nx, rt := P.rt })
    (done : ∀ l h, I [] l h → srcOk s h ∧ P.nx l h) (items : List Val) (l : GH.Loc) (h : Hv) (i : I items l h) : sok (forL t b s items l h) P := forL_inv I (step I fun _ _ _ z => z) done items l h i
theorem lcL_invo {t : Tg} {c : DenG Bool} {e : Den} {s : Src} {P : List Val → Hv → Prop} (I : List Val → List Val → Hv → Prop) {l : GH.Loc}
    (step : ∀ I' : List Val → List Val → Hv → Prop, (∀ x l h, I x l h → I' x l h) → ∀ x r acc h, I (x :: r) acc h → srcOk s h ∧ tok (t x l h) fun l1 h1 => ok (c l1 h1) fun b h2 => if b then ok (e l1 h2) fun v h3 => I' r (acc ++ [v]) h3 else I' r acc h2)
    (done : ∀ acc h, I [] acc h → srcOk s h ∧ P acc h) (items acc : List Val) (h : Hv) (i : I items acc h) : ok (lcL t c e s items acc l h) P := lcL_inv I (step I fun _ _ _ z => z) done items acc h i
@[simp] theorem e_isi (t : Ty) (d : Den) (l : GH.Loc) (h : Hv) : dIsi t d l h = (d l h).bind fun v h1 => match tyOf h1 v with
  | some a => .ok (.bl (isiB a t)) h1
  | none => .fail := nrfl rfl
theorem vAll_bls (l : List Bool) (h : Hv) : vAll (.lst (l.map .bl)) h = .ok (.bl (l.all id)) h := by
  have : blsOf (l.map .bl) = some l := by
    induction l with
    | nil => rfl
    | cons a l ih => simp [blsOf, ih]
  simp [vAll, lstOf, this]
theorem rng_ok {j : Nat} {h : Hv} (h1 : j ≤ 16777216) : vRange1 (.int (j : Int)) h = .ok (rangeL 0 j, none) h := by
  have e : (2 : Int) ^ 62 = 4611686018427387904 := by decide
  unfold vRange1
  rw [e]
  dsimp only
  rw [if_pos ⟨by omega, by omega⟩]
  simp
theorem rng_mem {n : Nat} {v : Val} (m : v ∈ rangeL 0 n) : ∃ j : Nat, j < n ∧ v = .int j := by
  obtain ⟨j, hj, rfl⟩ := List.mem_map.mp m
  exact ⟨j, List.mem_range.mp hj, by simp⟩
theorem nth_nat {α : Type} {l : List α} {j : Nat} {v : α} (e : l[j]? = some v) : nth l (j : Int) = some v := by
  simp [nth, e]
end GH
set_option Elab.async false
set_option linter.all false
set_option maxRecDepth 100000
set_option maxHeartbeats 1000000
set_option autoImplicit false
/-! plain lemmas for every law. -/
namespace GH
open PySem
variable [TheWorld]
section
variable (a b c d : Val) (l : List Val) (h : Hv)
@[simp] theorem t0 : vIx (.tup (a :: l)) (.int 0) h = .ok a h := nrfl rfl
@[simp] theorem t1 : vIx (.tup (a :: b :: l)) (.int 1) h = .ok b h := nrfl rfl
@[simp] theorem t2 : vIx (.tup (a :: b :: c :: l)) (.int 2) h = .ok c h := nrfl rfl
@[simp] theorem t3 : vIx (.tup (a :: b :: c :: d :: l)) (.int 3) h = .ok d h := nrfl rfl
@[simp] theorem m1_3 : vIx (.tup [a, b, c]) (.int (-1)) h = .ok c h := nrfl rfl
@[simp] theorem m2_3 : vIx (.tup [a, b, c]) (.int (-2)) h = .ok b h := nrfl rfl
@[simp] theorem m1_4 : vIx (.tup [a, b, c, d]) (.int (-1)) h = .ok d h := nrfl rfl
@[simp] theorem m2_4 : vIx (.tup [a, b, c, d]) (.int (-2)) h = .ok c h := nrfl rfl
end
@[simp] theorem e_neg (i : Int) (l : GH.Loc) (h : Hv) : dNeg (dC (.int i)) l h = .ok (.int (-i)) h := nrfl rfl
@[simp] theorem e_osome (d : Den) (l : GH.Loc) (h : Hv) : oSome d l h = (d l h).bind fun v h1 => match v with
  | .int i => .ok (some i) h1
  | _ => .fail := nrfl rfl
@[simp] theorem e_andv (a b : Den) (l : GH.Loc) (h : Hv) : dAndV a b l h = (a l h).bind fun v h1 => match v with
  | .bl true => b l h1
  | .bl false => .ok (.bl false) h1
  | _ => .fail := by
  unfold dAndV
  cases a l h with
  | ok v h1 => cases v <;> first | rfl | (rename_i b; cases b <;> rfl)
  | exc e h1 => rfl
  | fail => rfl
@[simp] theorem e_notv (a : Den) (l : GH.Loc) (h : Hv) : dNotV a l h = (a l h).bind fun v h1 => match v with
  | .bl c => .ok (.bl (!c)) h1
  | _ => .fail := nrfl rfl
@[simp] theorem e_orv (a b : Den) (l : GH.Loc) (h : Hv) : dOrV a b l h = (a l h).bind fun v h1 => match v with
  | .bl true => .ok (.bl true) h1
  | .bl false => b l h1
  | _ => .fail := by
  unfold dOrV
  cases a l h with
  | ok v h1 => cases v <;> first | rfl | (rename_i b; cases b <;> rfl)
  | exc e h1 => rfl
  | fail => rfl
@[simp] theorem e_chain (f f' : Val → Val → Hv → Res Val) (da db dc : Den) (l : GH.Loc) (h : Hv) : dChain f f' da db dc l h = (da l h).bind fun v h1 => (db l h1).bind fun u h2 => (f v u h2).bind fun z h3 => match z with
  | .bl true => (dc l h3).bind fun w h4 => f' u w h4
  | .bl false => .ok (.bl false) h3
  | _ => .fail := nrfl rfl
theorem add_lst {a b : List Val} {h : Hv} (e : a.length + b.length ≤ 16777216) : vAdd (.lst a) (.lst b) h = .ok (.lst (a ++ b)) h := by
  simp [vAdd, lstOf, lineN, e]
theorem add_tup {a b : List Val} {h : Hv} (e : a.length + b.length ≤ 16777216) : vAdd (.tup a) (.tup b) h = .ok (.tup (a ++ b)) h := by
  simp [vAdd, lineN, e]
theorem vRange1_ok {j : Int} {h : Hv} (h0 : 0 ≤ j) (h1 : j ≤ 16777216) : vRange1 (.int j) h = .ok (rangeL 0 j.toNat, none) h := by
  have e : (2 : Int) ^ 62 = 4611686018427387904 := by decide
  unfold vRange1
  rw [e]
  dsimp only
  rw [if_pos ⟨by omega, h1⟩]
theorem vRange2_ok {a b : Int} {h : Hv} (h0 : -1000000 ≤ a) (h3 : a ≤ 1000000) (h1 : b ≤ 16777216) (h2 : a ≤ b) (h4 : b - a ≤ 16777216) : vRange2 (.int a) (.int b) h = .ok (rangeL a (b - a).toNat, none) h := by
  have e : (2 : Int) ^ 62 = 4611686018427387904 := by decide
  unfold vRange2
  rw [e]
  dsimp only
  rw [if_pos (by constructor <;> first | omega | (constructor <;> omega))]
theorem cut_take {α : Type} (l : List α) (n : Nat) : cut l none (some (n : Int)) = l.take n := by
  unfold cut
  rw [HT.sIx_nat, HT.sIx_none]
  simp only [List.drop_zero, Nat.sub_zero]
  by_cases h : n ≤ l.length
  · rw [Nat.min_eq_left h]
  · rw [Nat.min_eq_right (by omega), List.take_of_length_le (Nat.le_refl _), List.take_of_length_le (by omega)]
theorem cut_drop {α : Type} (l : List α) (n : Nat) : cut l (some (n : Int)) none = l.drop n := by
  unfold cut
  rw [HT.sIx_nat, HT.sIx_none]
  by_cases h : n ≤ l.length
  · rw [Nat.min_eq_left h]
    exact List.take_of_length_le (by simp)
  · rw [Nat.min_eq_right (by omega), List.drop_of_length_le (Nat.le_refl _), List.drop_of_length_le (by omega)]
    simp
section
variable (h : Hv) (A B C : Ob)
@[simp] theorem g0 : (h ++ [A, B])[h.length]? = some A := by simp
@[simp] theorem g1 : (h ++ [A, B])[h.length + 1]? = some B := by
  rw [List.getElem?_append_right (by omega)]; simp
@[simp] theorem s0 : (h ++ [A, B]).set h.length C = h ++ [C, B] := by simp
@[simp] theorem s1 : (h ++ [A, B]).set (h.length + 1) C = h ++ [A, C] := by
  rw [List.set_append_right _ _ (by omega)]; simp
end
theorem append_ref {i : Nat} {l : List Val} {v : Val} {h : Hv} (e : h[i]? = some (.lst l)) (hl : l.length < 16777216) : vAppend (.ref i) v h = .ok .non (h.set i (.lst (l ++ [v]))) := by
  simp [vAppend, e, lineN, hl]
theorem pop_ref {i : Nat} {l : List Val} {v : Val} {h : Hv} (e : h[i]? = some (.lst (l ++ [v]))) : vPop (.ref i) h = .ok v (h.set i (.lst l)) := by
  simp [vPop, e]
theorem isLst_ref {i : Nat} {l : List Val} {h : Hv} (e : h[i]? = some (.lst l)) : isLst h (.ref i) = true := by
  simp [isLst, lstOf, e]
theorem tru_ref {i : Nat} {l : List Val} {h : Hv} (e : h[i]? = some (.lst l)) : vTru (.ref i) h = .ok (!l.isEmpty) h := by
  simp [vTru, seqOf, lstOf, e]
@[simp] theorem tru_tup {l : List Val} {h : Hv} : vTru (.tup l) h = .ok (!l.isEmpty) h := by
  simp [vTru, seqOf]
theorem len_ref {i : Nat} {l : List Val} {h : Hv} (e : h[i]? = some (.lst l)) : vLen (.ref i) h = .ok (.int l.length) h := by
  simp [vLen, seqOf, lstOf, e]
theorem pv_inj {p q : List Int} (h : pv p = pv q) : p = q := by
  have h : p.map Val.int = q.map Val.int := by simpa using h
  exact List.map_inj_right (fun a b e => by simpa using e) |>.mp h
theorem unpv : ∀ l : List Val, (∀ v ∈ l, ∃ p, v = pv p) → ∃ L : List (List Int), l = L.map pv
  | [], _ => ⟨[], rfl⟩
  | v :: l, h => by
    obtain ⟨p, rfl⟩ := h v (List.mem_cons_self ..)
    obtain ⟨L, rfl⟩ := unpv l fun v hv => h v (List.mem_cons_of_mem _ hv)
    exact ⟨p :: L, rfl⟩
theorem pds_ints (p : List Int) : pds (p.map .int) = p.map PyData.int := by
  induction p with
  | nil => rfl
  | cons a p ih => simp only [List.map_cons, pds, pd, ih]
theorem alike_pv (p q : List Int) : PySem.W.alike (pd (pv p)) (pd (pv q)) = true := by
  simp only [pd, PySem.W.alike, pds_ints, PySem.W.alike_ints]
theorem mem_pv {p : List Int} {l : List (List Int)} : pv p ∈ l.map pv ↔ p ∈ l := by
  constructor
  · intro h
    obtain ⟨q, hq, e⟩ := List.mem_map.mp h
    rw [← pv_inj e]; exact hq
  · exact fun h => List.mem_map.mpr ⟨p, h, rfl⟩
theorem sorted_pv {l : List (List Int)} (hd : l = [] ∨ ∃ r, l = [] :: r) (h : Hv) : ∃ L : List (List Int), (∀ q, q ∈ L ↔ q ∈ l) ∧ L.length = l.length ∧ vSorted (.lst (l.map pv)) h = .ok (.lst (L.map pv)) h := by
  have ok : sortOk (l.map pv) = true := by
    unfold sortOk
    have h1 := okVs_pvs l
    have h2 := dpVs_pvs l
    have h3 : ((l.map pv).all fun a => (l.map pv).all fun b => PySem.W.alike (pd a) (pd b)) = true := by
      refine List.all_eq_true.mpr fun a ha => List.all_eq_true.mpr fun b hb => ?_
      obtain ⟨p, _, rfl⟩ := List.mem_map.mp ha
      obtain ⟨q, _, rfl⟩ := List.mem_map.mp hb
      exact alike_pv p q
    rw [h1, h3]
    have h4 : decide (dpVs (l.map pv) ≤ 190) = true := decide_eq_true (by omega)
    rw [h4]
    rcases hd with rfl | ⟨r, rfl⟩
    · rfl
    · simp
      exact .inr rfl
  have perm : (sortV (l.map pv)).Perm (l.map pv) := List.mergeSort_perm _ _
  obtain ⟨L, hL⟩ := unpv (sortV (l.map pv)) fun v hv => by
    obtain ⟨p, _, e⟩ := List.mem_map.mp (perm.mem_iff.mp hv)
    exact ⟨p, e.symm⟩
  refine ⟨L, fun q => ?_, ?_, ?_⟩
  · rw [← mem_pv (l := l), ← perm.mem_iff, hL, mem_pv]
  · have := perm.length_eq
    rw [hL] at this
    simpa using this
  · simp [vSorted, lstOf, ok, hL]
/-! comprehensions whose parts are known and change nothing -/
theorem lcL_eq {t : Tg} {c : DenG Bool} {e : Den} {s : Src} {l : GH.Loc} {h : Hv} (f : Val → Bool) (g : Val → Val) (hs : srcOk s h) : ∀ (items acc : List Val), (∀ x ∈ items, ∃ l1, t x l h = .ok l1 h ∧ c l1 h = .ok (f x) h ∧ (f x = true → e l1 h = .ok (g x) h)) → lcL t c e s items acc l h = .ok (acc ++ (items.filter f).map g) h
  | [], acc, _ => by simp [lcL, hs]
  | x :: r, acc, q => by
    obtain ⟨l1, e1, e2, e3⟩ := q x (List.mem_cons_self ..)
    have ih := fun acc => lcL_eq (l := l) f g hs r acc fun y hy => q y (List.mem_cons_of_mem _ hy)
    simp only [lcL, if_pos hs, e1, e2]
    cases ef : f x with
    | true => simp [e3 ef, ih, ef]
    | false => simp [ih, ef]
theorem lcL_map {t : Tg} {e : Den} {s : Src} {l : GH.Loc} {h : Hv} (g : Val → Val) (hs : srcOk s h) (items acc : List Val) (q : ∀ x ∈ items, ∃ l1, t x l h = .ok l1 h ∧ e l1 h = .ok (g x) h) : lcL t dYes e s items acc l h = .ok (acc ++ items.map g) h := by
  rw [lcL_eq (fun _ => true) g hs items acc fun x hx => ?_]
  · congr 2
    rw [List.filter_eq_self.mpr fun _ _ => rfl]
  · obtain ⟨l1, e1, e2⟩ := q x hx
    exact ⟨l1, e1, rfl, fun _ => e2⟩
theorem lcB_map {t : Tg} {e : Den} {s : Src} {l : GH.Loc} {h : Hv} (g : Val → Val) (hs : srcOk s h) : ∀ (items acc : List Val), (∀ x ∈ items, ∃ l1, t x l h = .ok l1 h ∧ e l1 h = .ok (g x) h) → acc.length + items.length ≤ 16777216 → lcB t dYes e s items acc l h = .ok (acc ++ items.map g) h
  | [], acc, _, _ => by simp [lcB, hs]
  | x :: r, acc, q, n => by
    obtain ⟨l1, e1, e2⟩ := q x (List.mem_cons_self ..)
    simp only [List.length_cons] at n
    have hl : acc.length < lineN := by unfold lineN; omega
    simp only [lcB, if_pos hs, e1, e_yes, if_true, e2, if_pos hl]
    rw [lcB_map g hs r (acc ++ [g x]) (fun y hy => q y (List.mem_cons_of_mem _ hy)) (by simp; omega)]
    simp
theorem lc2L_map {t t1 : Tg} {di1 : DenG Src} {e : Den} {vs1 : List Nat} {s : Src} {l : GH.Loc} {h : Hv} (F : Val → List Val) (hs : srcOk s h) : ∀ (items acc : List Val), (∀ x ∈ items, ∃ l1 s1, t x l h = .ok l1 h ∧ di1 l1 h = .ok s1 h ∧ ∀ acc : List Val, acc.length + (F x).length ≤ 16777216 → lcB t1 dYes e s1 s1.1 acc (wipeL l1 vs1) h = .ok (acc ++ F x) h) →
    acc.length + (items.flatMap F).length ≤ 16777216 → lc2L t dYes di1 t1 dYes e vs1 s items acc l h = .ok (acc ++ items.flatMap F) h
  | [], acc, _, _ => by simp [lc2L, hs]
  | x :: r, acc, q, n => by
    obtain ⟨l1, s1, e1, e2, e3⟩ := q x (List.mem_cons_self ..)
    simp only [List.flatMap_cons, List.length_append] at n
    simp only [lc2L, if_pos hs, e1, e_yes, if_true, e2]
    rw [e3 acc (by omega)]
    simp only [Res.bind_ok]
    rw [lc2L_map F hs r (acc ++ F x) (fun y hy => q y (List.mem_cons_of_mem _ hy)) (by rw [List.length_append]; omega)]
    simp
theorem dcL_map {t : Tg} {ek e : Den} {s : Src} {l : GH.Loc} {h : Hv} (g : Val → Val × Val) (hs : srcOk s h) : ∀ (items : List Val) (acc : List (Val × Val)), (∀ x ∈ items, ∃ l1, t x l h = .ok l1 h ∧ ek l1 h = .ok (g x).1 h ∧ e l1 h = .ok (g x).2 h ∧ (keyOf (g x).1).isSome = true) → dcL t dYes ek e s items acc l h = .ok ((items.map g).foldl (fun a p => dPut a p.1 p.2) acc) h
  | [], acc, _ => by simp [dcL, hs]
  | x :: r, acc, q => by
    obtain ⟨l1, e1, e2, e3, e4⟩ := q x (List.mem_cons_self ..)
    obtain ⟨kk, e5⟩ := Option.isSome_iff_exists.mp e4
    simp only [dcL, if_pos hs, e1, e_yes, if_true, e2, e3, e5]
    rw [dcL_map g hs r _ fun y hy => q y (List.mem_cons_of_mem _ hy)]
    rfl
end GH
set_option Elab.async false
set_option linter.all false
set_option maxRecDepth 100000
set_option maxHeartbeats 4000000
set_option autoImplicit false
/-! sorted(d) of text keys, d.pop(k, x), xs.reverse(), str(n), except C as e: return A if isinstance(e, D) else B. -/
namespace GH
open PySem PySem.Spec PyProof.Rows L2
variable [TheWorld]
theorem mkT_ok {vs : List Val} {h : Hv} (e : vs.length ≤ 16777216) : mkTup vs h = .ok (.tup vs) h := by simp [mkTup, lineN, e]
theorem mkL_ok {vs : List Val} {h : Hv} (e : vs.length ≤ 16777216) : mkLst vs h = .ok (.lst vs) h := by simp [mkLst, lineN, e]
theorem leS_trans (a b c : Str) (h1 : leS a b = true) (h2 : leS b c = true) : leS a c = true := by
  simp only [leS, decide_eq_true_eq] at *
  exact List.le_trans h1 h2
theorem leS_total (a b : Str) : (leS a b || leS b a) = true := by
  simp only [leS, Bool.or_eq_true, decide_eq_true_eq]
  exact List.le_total _ _
theorem leS_anti {a b : Str} (h1 : leS a b = true) (h2 : leS b a = true) : a = b := by
  simp only [leS, decide_eq_true_eq] at h1 h2
  have := List.le_antisymm h1 h2
  cases a; cases b
  simp only [Str.mk.injEq]
  exact Array.toList_inj.mp this
theorem sortS_of {ys ks : List Str} (p : ys.Perm ks) (h : ys.Pairwise fun a b => leS a b = true) : ys = ks.mergeSort leS :=
  List.Perm.eq_of_pairwise (le := fun a b => leS a b = true) (fun _ _ _ _ h1 h2 => leS_anti h1 h2) h (List.pairwise_mergeSort leS_trans leS_total ks) (p.trans (List.mergeSort_perm ks leS).symm)
theorem lt_cps {a b : Str} (h : ltCps b.cps.toList a.cps.toList = false) : leS a b = true := by
  rw [PyProof.Rows.ltCps_eq] at h
  simp only [leS, decide_eq_true_eq]
  exact List.not_lt.mp (by simpa using h)
theorem rising_pw : ∀ {ss : List Str} {p : Str}, risingS p ss = true → (p :: ss).Pairwise fun a b => leS a b = true
  | [], p, _ => List.pairwise_singleton _ _
  | x :: r, p, h => by
    simp only [risingS, Bool.and_eq_true, Bool.not_eq_true'] at h
    have ih := rising_pw h.2
    refine List.pairwise_cons.mpr ⟨fun b hb => ?_, ih⟩
    have h1 := lt_cps h.1
    rcases List.mem_cons.mp hb with rfl | hb
    · exact h1
    · exact leS_trans _ _ _ h1 ((List.pairwise_cons.mp ih).1 b hb)
theorem sorted_pw {ys : List Str} (h : sortedS ys = true) : ys.Pairwise fun a b => leS a b = true := by
  cases ys with
  | nil => exact .nil
  | cons x r => exact rising_pw h
section
variable {X : Cx} {W : WX}
/-- sorted(d), the keys texts -/
noncomputable def sortStr (ys : List (List Nat)) : List Val := ((ys.map sOf).mergeSort leS).map fun s => Val.str s.cps.toList
noncomputable def vSortDic (v : Val) (h : Hv) : Res Val := match dicOf h v with
  | some l => match strsOf (l.map (·.1)) with
    | some ys => if ys.length < 64 then .ok (.lst (sortStr ys)) h else .fail
    | none => .fail
  | none => .fail
theorem keys_strs {K : PySem.W.Frag} {g : Gh} {H : Hp} : ∀ {l : List (Val × Val)} {ks : List (Key × V)} {ys : List (List Nat)}, DR K g H l ks → strsOf (l.map (·.1)) = some ys → ks.map (·.1) = (ys.map sOf).map Sum.inr
  | [], ks, ys, r, e => by
    simp only [List.map_nil, strsOf, Option.some.injEq] at e
    subst e
    rw [r.nilInv]
    rfl
  | p :: l, ks, ys, r, e => by
    obtain ⟨q, ks', rfl, e1, _, t⟩ := r.inv
    simp only [List.map_cons] at e
    cases hp : p.1 with
    | str s =>
      rw [hp] at e e1
      simp only [strsOf, Option.map_eq_some_iff] at e
      obtain ⟨ys', e2, rfl⟩ := e
      simp only [keyOf, Option.some.injEq] at e1
      simp only [List.map_cons, keys_strs t e2, ← e1]
    | _ => rw [hp] at e; simp [strsOf] at e
theorem c1_sortDic (hc : X.calm = true) : C1 X (.builtin "sorted") vSortDic := ⟨_, call_sortedD hc, fun W g H h σ v x Q R r A => by
  unfold vSortDic at A
  split at A
  · rename_i l hl
    split at A
    · rename_i ys hy
      split at A
      · rename_i hz
        obtain ⟨i, a, ks, rfl, rfl, hm, hi, ha, d⟩ := dicOf_ok R r hl
        refine ⟨a, ks, ys.map sOf, rfl, .inl ha, keys_strs d hy, by rw [List.length_map]; exact hz, fun zs p pm so np => ?_⟩
        obtain ⟨E5, R5⟩ := R.grow (o := .lst (zs.map V.str)) np
        refine A g _ (.ref p) E5 R5 ?_
        simp only [VR]
        refine ⟨p, _, rfl, R.fresh np, upd_same, ?_⟩
        rw [sortS_of pm (sorted_pw so)]
        exact VRs_strs _
      · exact A.elim
    · exact A.elim
  · exact A.elim⟩
/-- str(n) -/
def vStrI (v : Val) (h : Hv) : Res Val := match v with
  | .int i => if i.natAbs.log2 < 1920 then .ok (.str (Str.ofString (toString i)).cps.toList) h else .fail
  | _ => .fail
theorem c1_str : C1 X (.type "str") vStrI := ⟨_, call_str_int, fun W g H h σ v x Q R r A => by
  unfold vStrI at A
  split at A
  · split at A
    · rename_i hz
      simp only [VR] at r
      subst r
      refine ⟨_, rfl, hz, A g H _ Ext.refl R ?_⟩
      simp only [VR]
      exact congrArg V.str (by generalize Str.ofString _ = s; cases s; rfl)
    · exact A.elim
  · exact A.elim⟩
/-- x.reverse() -/
def vReverse (x : Val) (h : Hv) : Res Val := match x with
  | .ref i => match h[i]? with
    | some (.lst l) => .ok .non (h.set i (.lst l.reverse))
    | _ => .fail
  | _ => .fail
theorem VRs.rev {K : PySem.W.Frag} {g : Gh} {H : Hp} : ∀ {l : List Val} {xs : List V}, VRs K g H l xs → VRs K g H l.reverse xs.reverse
  | [], xs, r => by rw [show xs = [] from r]; exact VRs.nil
  | v :: l, xs, r => by
    obtain ⟨x, r', rfl, rx, rr⟩ := r
    rw [List.reverse_cons, List.reverse_cons]
    exact (VRs.rev rr).append (.one rx)
theorem ge_reverse {o : Expr} {dx : Den} {apos cpos : Pos} (ho : GE X W o dx) (hbase : attributeBase o "reverse" X.env (eval o X.env) = eval o X.env := by rfl) (hline : (apos.endLine == cpos.line) = true := by rfl) : GE X W (.Call (.Attribute o "reverse" apos) [] [] cpos) (dMeth0 isLst vReverse dx) :=
  ge_meth0 PySem.F.plainAttrs_list PySem.F.slot_list_reverse PySem.F.type_list_reverse mt_reverse (fun g H h v x R r e => lst_ty R r e) (fun W g H h σ v x Q R rv A => by
    unfold vReverse at A
    split at A
    · rename_i i
      split at A
      · rename_i l hl
        simp only [VR] at rv
        obtain ⟨a, rfl, hm⟩ := rv
        obtain ⟨xs, e1, rs⟩ := ref_at R hl hm
        obtain ⟨E, R1⟩ := R.write (ob := .lst l.reverse) (o' := .lst xs.reverse) hm fun E => ⟨_, upd_same, (rs.ext R E).rev⟩
        exact ⟨a, xs, rfl, rfl, e1, A g _ .non E R1 (by simp only [VR])⟩
      · exact A.elim
    · exact A.elim) ho hbase hline
/-- d.pop(k, x) -/
def dPop2 (o e f : Den) : Den := fun l h => (o l h).bind fun x h1 => if isDic h1 x = true then (e l h1).bind fun k h2 => (f l h2).bind fun z h3 => (match x with
  | .ref i => (match h3[i]?, keyOf k with
    | some (.dic m), some _ => (match dGet m k with
      | some v => .ok v (h3.set i (.dic (dDrop m k)))
      | none => .ok z h3)
    | _, _ => .fail)
  | _ => .fail) else .fail
theorem ge_pop2 {o e f : Expr} {dx de df : Den} {apos cpos : Pos} (ho : GE X W o dx) (he : GE X W e de) (hf : GE X W f df) (m : M2 X o "pop" apos e f cpos := by exact ⟨rfl, rfl, rfl, rfl⟩) : GE X W (.Call (.Attribute o "pop" apos) [e, f] [] cpos) (dPop2 dx de df) := by
  refine PE.imp (pe_dpop2 ho he hf m) fun σ H Q ⟨g, l, h, S, R, A⟩ => ?_
  refine tG_of S R A fun v h1 g1 H1 x E S1 R1 r1 A1 => ?_
  split at A1
  · rename_i ok1
    obtain ⟨a, rfl, hd⟩ := dic_is R1 r1 ok1
    refine ⟨a, rfl, hd, ?_⟩
    refine tG_of S1 R1 A1 fun u h2 g2 H2 y E2 S2 R2 r2 A2 => ?_
    refine tG_of S2 R2 A2 fun w h3 g3 H3 z E3 S3 R3 r3 A3 => ?_
    split at A3
    · rename_i i
      split at A3
      · rename_i mm kk hl hk
        have rv := (r1.ext R1 E2).ext R2 E3
        simp only [VR] at rv
        obtain ⟨a', e1, hm⟩ := rv
        cases e1
        obtain ⟨ks, ha, d⟩ := ref_at R3 hl hm
        have ry := r2.ext R2 E3
        obtain ⟨d1, d2⟩ := DR.get hk d
        obtain ⟨E4, R4⟩ := R3.write (ob := .dic (dDrop mm u)) (o' := .dK (dropK ks kk)) hm fun E => ⟨_, upd_same, DR.drop hk ⟨d.1, d.2.ext R3 E⟩⟩
        refine ⟨ks, kk, ha, key_V ry hk, fun v0 hv0 => ?_, fun hn => ?_⟩
        · cases e : dGet mm u with
          | none => rw [d2 e] at hv0; cases hv0
          | some v1 =>
            rw [e] at A3
            obtain ⟨x1, e2, r4⟩ := d1 v1 e
            rw [e2] at hv0
            cases hv0
            exact A3 g3 _ _ E4 R4 (r4.ext R3 E4)
        · cases e : dGet mm u with
          | some v1 =>
            obtain ⟨x1, e2, r4⟩ := d1 v1 e
            rw [e2] at hn
            cases hn
          | none =>
            rw [e] at A3
            exact A3 g3 H3 _ Ext.refl R3 r3
      · exact A3.elim
    · exact A3.elim
  · exact A1.elim
end
end GH
set_option Elab.async false
set_option linter.all false
set_option maxRecDepth 100000
set_option maxHeartbeats 4000000
set_option autoImplicit false
/-! try: body; except C as e: return A if isinstance(e, D) else B. -/
namespace GH
open PySem PySem.Spec PyProof.Rows L2
variable [TheWorld]
section
variable {X : Cx} {W : WX}
/-- only C is raised; its instances are (not) instances of D -/
def sTryIs (i : Nat) (c : List Nat) (ans : Bool) (body : Stm) (A B : List Nat) : Stm := fun l h => match body l h with
  | .exc e l1 h1 => if e.c = c ∧ e.fs = [] ∧ i < l1.length then .rt (.str (if ans then A else B)) h1 else .fail
  | r => r
theorem gs_tryIs (c : List Nat) (ans : Bool) (A B : List Nat) {i : Nat} {x y nm xA xB xI : Str} {cy : Value} {body : List Stmt} {np np2 np3 np4 pos pos' pos2 pos3 pos4 rp cp : Pos} {j1 j2 : Nat} {db : Stm}
    (hs : X.stack = X.env :: X.outer) (hf : X.env.frame = some X.env.locals) (hN : X.N.Nodup) (hi : X.N[i]? = some nm) (hln : X.env.kindOf nm = some .local)
    (hc : Names X x (.ref (clsA X.K c))) (tk : Takes X W) (hm : PySem.W.exmOne X.K (.ref (clsA X.K c)) (.ref (clsA X.K c)) = some true) (EC : ExcC X.K (clsA X.K c))
    (hk : PySem.W.kitOne X.K (.ref (clsA X.K c)) cy = some ans) (hmy : X.mg y = some cy) (hcy : ∃ a, cy = .ref a) (hfi : X.mg xI = none) (hgi : Gl X xI) (hgy : Gl X y)
    (hb : ∀ (W' : WX) (pn : List (Addr × Obj)) (xe : Value → Shared → Prop), Takes (X.tr pn xe) W' → PassesOwn (model X.prog X.w) X.A X.env xe → GSs (X.tr pn xe) W' body db)
    (hdy : (y == ("__debug__" : Str)) = false := by decide +kernel) (hdn : (nm == ("__debug__" : Str)) = false := by decide +kernel) (hdc : (nm == ("__classdict__" : Str)) = false := by decide +kernel)
    (hs1 : starEach [.Name nm np2, .Name y np3] X.env = (false, eval (.Name nm np2) X.env) :: starEach [.Name y np3] X.env := by rfl) (hs2 : starEach [.Name y np3] X.env = (false, eval (.Name y np3) X.env) :: starEach [] X.env := by rfl)
    (hpl : (backTo cp (starEach [.Name y np3] X.env)).any (·.1) = false := by rfl) (hA : xA = sOf A := by rfl) (hB : xB = sOf B := by rfl) (hI : xI = ("isinstance" : Str) := by rfl) :
    GS X W (.Try body [.ExceptHandler (some (.Name x np)) (some nm) [.Return (some (.IfExp (.Call (.Name xI np4) [.Name nm np2, .Name y np3] [] cp) (.Constant (.str xA) j1 pos2) (.Constant (.str xB) j2 pos3) rp)) pos4] pos'] [] [] pos) (sTryIs i c ans db A B) := by
  subst hA hB hI
  refine PS.imp (ps_try_as (i := i) (tb := fun W' => tS X.K W' db)
    (ts := fun a cls d => fun D σ H => cls = .ref (clsA X.K c) ∧ d = none ∧ σ[i]? = some (some (.ref a)) ∧ D.rt (.str (sOf (if ans then A else B))) H) hs hf hN hi hln hc tk hb (fun a oe cls d pn hz hfd => ?_)) fun D σ H ⟨g, l, h, S, R, AA⟩ => ?_
  · refine ⟨fun pins s σ H D I ⟨e1, e2, e3, q⟩ => ?_⟩
    subst e1 e2
    obtain ⟨ay, rfl⟩ := hcy
    have hy : PE (X.suite a ((a, oe) :: pn)) (.Name y np3) (tC (.ref ay)) := pe_glob hgy hmy rfl hdy
    have hv : PE (X.suite a ((a, oe) :: pn)) (.Name nm np2) (tVar i) := pe_var hi (.inl hln) hdn hdc
    have ht := pe_callB (X := X.suite a ((a, oe) :: pn)) (p := np4) (pos := cp) (call_isE (pn := pn) EC hz hfd) hgi hfi (by decide +kernel) (pa_cons hv (pa_cons hy pa_nil hs2) hs1) (by decide +kernel) (by decide +kernel) hs1 hpl
    refine (pss_one (ps_ret (pe_ifExp (pt_val ht) pe_str pe_str))).run pins s σ H D I ?_
    refine ⟨_, e3, ?_⟩
    refine ⟨_, _, ans, rfl, ?_, hk, ?_⟩
    · intro u hu; exact hu
    · refine ⟨ans, rfl, ?_⟩
      cases ans with
      | true => exact q
      | false => exact q
  · refine ⟨g, l, h, S, R, ?_⟩
    unfold sTryIs at AA
    cases e : db l h with
    | nx l1 h1 => rw [e] at AA; exact AA
    | bk l1 h1 => rw [e] at AA; exact AA
    | ct l1 h1 => rw [e] at AA; exact AA
    | rt l1 h1 => rw [e] at AA; exact AA
    | fail => rw [e] at AA; exact AA
    | exc x1 l1 h1 =>
      rw [e] at AA
      simp only at AA
      split at AA
      · rename_i hcc
        intro g' H' σ' cls d E R' S' re
        obtain ⟨k1, k2⟩ := re
        rw [hcc.1] at k1
        rw [hcc.2.1] at k2
        simp only at k2
        subst k1 k2
        have hlen : i < σ'.length := by rw [← S'.len]; exact hcc.2.2
        refine ⟨true, hm, fun _ a na => ⟨rfl, rfl, by rw [List.getElem?_set_self hlen], ?_⟩, fun z => by cases z⟩
        exact AA g' H' _ E R' (by simp only [VR])
      · exact AA.elim
end
end GH
set_option Elab.async false
set_option linter.all false
set_option maxRecDepth 100000
set_option maxHeartbeats 4000000
set_option autoImplicit false
/-! what the head tells of tuples of texts, of classes of exceptions. -/
namespace GH
open PySem PySem.Spec PyProof.Rows L2
variable [TheWorld]
theorem VRs_txt {K : PySem.W.Frag} {g : Gh} {H : Hp} : ∀ ws : List (List Nat), VRs K g H (ws.map .str) ((ws.map fun s => He.Dv.str (sOf s)).map (He.Dv.v K))
  | [] => VRs.nil
  | w :: ws => VRs.cons (by simp only [VR]; rfl) (VRs_txt ws)
theorem tup_txt {K : PySem.W.Frag} {x : Str} (ws : List (List Nat)) (h : He.tupB K x (ws.map fun s => He.Dv.str (sOf s)) = true) (g : Gh) (H : Hp) : VR K g H (.tup (ws.map .str)) (.ref (He.ga K x)) := by
  simp only [VR]
  exact ⟨_, _, rfl, He.tupB_ok h H, VRs_txt ws⟩
def excCB (K : PySem.W.Frag) (D : Addr) : Bool :=
  decide (PySem.W.findIn K (.ref D) "__getattribute__" = some (some (.builtin "BaseException.__getattribute__"))) && decide (PySem.W.findIn K (.ref D) "__getattr__" = some none) && decide (PySem.W.subIn K (.ref D) (.type "BaseException") = some true) &&
  PySem.W.hasDictIn K D && decide (PySem.W.findIn K (.ref D) "__class__" = some (some (.builtin "object.__class__"))) && decide (PySem.W.specialIn K (.builtin "object.__class__") "__get__" = some (some (.builtin "getset_descriptor.__get__"))) &&
  decide (PySem.W.takesIn K (.builtin "object.__class__") = some true) && decide (PySem.W.mroIn K D (.type "object") = some true)
theorem excCB_ok {K : PySem.W.Frag} {D : Addr} (h : excCB K D = true) : ExcC K D := by
  unfold excCB at h
  simp only [Bool.and_eq_true, decide_eq_true_eq] at h
  obtain ⟨⟨⟨⟨⟨⟨⟨h1, h2⟩, h3⟩, h4⟩, h5⟩, h6⟩, h7⟩, h8⟩ := h
  exact ⟨h1, h2, h3, h4, h5, h6, h7, h8⟩
def kitB (K : PySem.W.Frag) (C D : Addr) (b : Bool) : Bool := decide (PySem.W.kitOne K (.ref C) (.ref D) = some b)
theorem kitB_ok' {K : PySem.W.Frag} {C D : Addr} {b : Bool} (h : kitB K C D b = true) : PySem.W.kitOne K (.ref C) (.ref D) = some b := of_decide_eq_true h
end GH
set_option Elab.async false
set_option linter.all false
set_option maxRecDepth 100000
set_option maxHeartbeats 1000000
set_option autoImplicit false
/-! lists of texts, sorted; results as equations. -/
namespace GH
open PySem
variable [TheWorld]
abbrev Tx := List Nat
theorem eq_of {α : Type} {r : Res α} {a : α} {h : Hv} (k : ok r fun v h' => v = a ∧ h' = h) : r = .ok a h := by
  obtain ⟨v, h', e, rfl, rfl⟩ := ok_eq k
  exact e
@[simp] theorem sOf_cps (s : Tx) : (sOf s).cps.toList = s := rfl
theorem cps_sOf (s : Str) : sOf s.cps.toList = s := by cases s; rfl
def srt (L : List Tx) : List Tx := ((L.map sOf).mergeSort leS).map fun s => s.cps.toList
theorem sortStr_srt (L : List Tx) : sortStr L = (srt L).map .str := by simp [sortStr, srt]
theorem srt_sOf (L : List Tx) : (srt L).map sOf = (L.map sOf).mergeSort leS := by
  simp only [srt, List.map_map]
  conv => rhs; rw [← List.map_id ((L.map sOf).mergeSort leS)]
  rfl
theorem map_sOf_inj {A B : List Tx} (e : A.map sOf = B.map sOf) : A = B := List.map_inj_right (fun _ _ e => sOf_inj e) |>.mp e
theorem srt_perm {A B : List Tx} (p : A.Perm B) : srt A = srt B := by
  unfold srt
  rw [sortS_perm (p.map sOf)]
theorem srt_perm_self (A : List Tx) : (srt A).Perm A := by
  have p := List.mergeSort_perm (A.map sOf) leS
  rw [← srt_sOf] at p
  have q := p.map fun s => s.cps.toList
  simpa [List.map_map, Function.comp_def] using q
theorem srt_mem {A : List Tx} {x : Tx} : x ∈ srt A ↔ x ∈ A := (srt_perm_self A).mem_iff
theorem srt_len (A : List Tx) : (srt A).length = A.length := (srt_perm_self A).length_eq
theorem srt_nodup {A : List Tx} (n : A.Nodup) : (srt A).Nodup := (srt_perm_self A).nodup_iff.mpr n
theorem srt_nil : srt [] = [] := List.length_eq_zero_iff.mp (srt_len [])
theorem srt_id {A : List Tx} (h : (A.map sOf).Pairwise fun a b => leS a b = true) : srt A = A := by
  apply map_sOf_inj
  rw [srt_sOf]
  exact (sortS_of (List.Perm.refl _) h).symm
/-- lists of different texts with the same ones -/
theorem srt_same {A B : List Tx} (na : A.Nodup) (nb : B.Nodup) (h : ∀ x, x ∈ A ↔ x ∈ B) : srt A = srt B := srt_perm ((List.perm_ext_iff_of_nodup na nb).mpr h)
theorem strsOf_map : ∀ L : List Tx, strsOf (L.map .str) = some L
  | [] => rfl
  | x :: L => by simp [strsOf, strsOf_map L]
abbrev TxOk (L : List Tx) : Prop := ∀ x ∈ L, okV (.str x) = true
theorem okVs_txt : ∀ {L : List Tx}, TxOk L → okVs (L.map .str) = true
  | [], _ => rfl
  | x :: L, h => by
    simp only [List.map_cons, okVs, h x (List.mem_cons_self ..), okVs_txt fun y hy => h y (List.mem_cons_of_mem _ hy), Bool.and_self]
theorem dpVs_txt : ∀ L : List Tx, dpVs (L.map .str) = 0
  | [] => rfl
  | x :: L => by simp [dpVs, dpV, dpVs_txt L]
theorem vSorted_txt {L : List Tx} (o : TxOk L) (h : Hv) : vSorted (.lst (L.map .str)) h = .ok (.lst ((srt L).map .str)) h := by
  have ok : sortOk (L.map .str) = true := by
    unfold sortOk
    rw [okVs_txt o, dpVs_txt]
    have h3 : ((L.map Val.str).all fun a => (L.map Val.str).all fun b => PySem.W.alike (pd a) (pd b)) = true := by
      refine List.all_eq_true.mpr fun a ha => List.all_eq_true.mpr fun b hb => ?_
      obtain ⟨p, _, rfl⟩ := List.mem_map.mp ha
      obtain ⟨q, _, rfl⟩ := List.mem_map.mp hb
      simp [pd, PySem.W.alike]
    have h4 : ((L.map Val.str).all isPlainK) = true := List.all_eq_true.mpr fun a ha => by
      obtain ⟨p, _, rfl⟩ := List.mem_map.mp ha
      rfl
    rw [h3, h4]
    simp
  have e : sortV (L.map .str) = (srt L).map .str := by
    unfold sortV
    have q := PySem.W.dataLe_str sOf
    have m : (L.mergeSort fun a b => leS (sOf a) (sOf b)).map Val.str = (L.map Val.str).mergeSort (PySem.W.dataLe false pd) := List.map_mergeSort fun a ha b hb => by
      have z := congrFun (congrFun q a) b
      rw [show leS (sOf a) (sOf b) = decide ((sOf a).cps.toList ≤ (sOf b).cps.toList) from rfl, ← z]
      rfl
    rw [← m]
    congr 1
    apply map_sOf_inj
    rw [srt_sOf]
    exact List.map_mergeSort fun a ha b hb => rfl
  simp [vSorted, lstOf, ok, e]
theorem addS_mem {L : List Str} {x y : Str} : y ∈ addS L x ↔ y ∈ L ∨ y = x := by
  unfold addS
  split
  · rename_i h
    constructor
    · exact .inl
    · rintro (q | rfl)
      · exact q
      · exact h
  · simp
theorem ddS_aux : ∀ (xs L : List Str), L.Nodup → (xs.foldl addS L).Nodup ∧ ∀ y, y ∈ xs.foldl addS L ↔ y ∈ L ∨ y ∈ xs
  | [], L, n => ⟨n, by simp⟩
  | x :: xs, L, n => by
    have n2 : (addS L x).Nodup := by
      unfold addS
      split
      · exact n
      · rename_i h
        refine List.nodup_append.mpr ⟨n, by simp, ?_⟩
        intro a ha b hb
        rw [List.mem_singleton.mp hb]
        rintro rfl
        exact h ha
    obtain ⟨a, b⟩ := ddS_aux xs (addS L x) n2
    refine ⟨a, fun y => ?_⟩
    rw [List.foldl_cons, b, addS_mem, List.mem_cons, or_assoc]
theorem vSortSet_txt {L M : List Tx} {v : Val} {h : Hv} (e : seqOf h v = some (L.map .str)) (n : L.length < 4000) (nd : M.Nodup) (hm : ∀ x, x ∈ M ↔ x ∈ L) : vSortSet v h = .ok (.lst ((srt M).map .str)) h := by
  have z : sortSet L = (srt M).map .str := by
    unfold sortSet
    obtain ⟨a, b⟩ := ddS_aux (L.map sOf) [] .nil
    have p : (ddS (L.map sOf)).Perm (M.map sOf) := by
      refine (List.perm_ext_iff_of_nodup a ?_).mpr fun y => ?_
      · exact List.pairwise_map.mpr (nd.imp fun ne e => ne (sOf_inj e))
      · rw [b]
        simp only [List.not_mem_nil, false_or, List.mem_map]
        constructor
        · rintro ⟨x, hx, rfl⟩; exact ⟨x, (hm x).mpr hx, rfl⟩
        · rintro ⟨x, hx, rfl⟩; exact ⟨x, (hm x).mp hx, rfl⟩
    rw [sortS_perm p, ← srt_sOf, List.map_map]
    congr 1
  simp [vSortSet, e, strsOf_map, n, z]
theorem vSortDic_txt {l : List (Val × Val)} {i : Nat} {L : List Tx} {h : Hv} (e : h[i]? = some (.dic l)) (k : l.map (·.1) = L.map .str) (n : L.length < 64) : vSortDic (.ref i) h = .ok (.lst ((srt L).map .str)) h := by
  simp only [vSortDic, dicOf, e, k, strsOf_map, n, if_true, sortStr_srt]
theorem inSeq_txt (x : Tx) (L : List Tx) : inSeq (.str x) (L.map .str) = decide (x ∈ L) := by
  unfold inSeq
  induction L with
  | nil => rfl
  | cons a s ih =>
    simp only [List.map_cons, List.any_cons, ih, veq_str]
    by_cases h1 : a = x <;> by_cases h2 : x ∈ s <;> simp [h1, h2, eq_comm]
    intro e; exact absurd e.symm h1
theorem inOk_txt {x : Tx} {L : List Tx} (ox : okV (.str x) = true) (o : TxOk L) : inOk (.str x) (L.map .str) = true := by
  unfold inOk
  rw [ox, okVs_txt o, dpVs_txt]
  simp
section
variable {x : Tx} {L : List Tx} (ox : okV (.str x) = true) (o : TxOk L) (h : Hv)
include ox o
theorem vIn_tupTxt : vIn (.str x) (.tup (L.map .str)) h = .ok (.bl (decide (x ∈ L))) h := by
  simp only [vIn, isIn, seqOf, thaw, inOk_txt ox o, if_true, inSeq_txt, Res.bind_ok]
theorem vIn_lstTxt : vIn (.str x) (.lst (L.map .str)) h = .ok (.bl (decide (x ∈ L))) h := by
  simp only [vIn, isIn, seqOf, lstOf, thaw, inOk_txt ox o, if_true, inSeq_txt, Res.bind_ok]
theorem vNotIn_tupTxt : vNotIn (.str x) (.tup (L.map .str)) h = .ok (.bl (!decide (x ∈ L))) h := by
  simp only [vNotIn, isIn, seqOf, thaw, inOk_txt ox o, if_true, inSeq_txt, Res.bind_ok]
theorem vNotIn_lstTxt : vNotIn (.str x) (.lst (L.map .str)) h = .ok (.bl (!decide (x ∈ L))) h := by
  simp only [vNotIn, isIn, seqOf, lstOf, thaw, inOk_txt ox o, if_true, inSeq_txt, Res.bind_ok]
end
@[simp] theorem vNe_str (a b : Tx) (h : Hv) : vNe (.str a) (.str b) h = .ok (.bl (!decide (a = b))) h := nrfl rfl
@[simp] theorem vNe_int (a b : Int) (h : Hv) : vNe (.int a) (.int b) h = .ok (.bl (!decide (a = b))) h := nrfl rfl
theorem vEq_lnil (L : List Val) (o : okVs L = true) (h : Hv) : vEq (.lst L) (.lst []) h = .ok (.bl L.isEmpty) h ∧ vNe (.lst L) (.lst []) h = .ok (.bl (!L.isEmpty)) h := by
  cases L with
  | nil => exact ⟨rfl, rfl⟩
  | cons a l =>
    simp only [okVs] at o
    constructor
    · simp only [vEq, thaw, eqOk, okV, okVs, dpV, dpVs, o, Bool.and_true, Bool.true_and]
      rw [if_pos (by simp)]
      rfl
    · simp only [vNe, thaw, eqOk, okV, okVs, dpV, dpVs, o, Bool.and_true, Bool.true_and]
      rw [if_pos (by simp)]
      rfl
/-! words asked -/
section
variable {l : GH.Loc} {h : Hv} {i : Nat} {w : Tx} {c : Bool}
theorem inT (L : List Tx) (hl : l[i]? = some (some (.str w))) (ow : okV (.str w) = true) (o : TxOk L) (d : decide (w ∈ L) = c) : dB (dBin vIn (dVar i) (dC (.tup (L.map .str)))) l h = .ok c h := by
  simp only [e_b, e_bin, dVar, hl, Res.bind_ok, e_c, vIn_tupTxt ow o, resB_bl, d]
/-- d has the text w -/
theorem inTd {dd : Den} (L : List Tx) (hl : dd l h = .ok (.str w) h) (ow : okV (.str w) = true) (o : TxOk L) (d : decide (w ∈ L) = c) : dB (dBin vIn dd (dC (.tup (L.map .str)))) l h = .ok c h := by
  simp only [e_b, e_bin, hl, Res.bind_ok, e_c, vIn_tupTxt ow o, resB_bl, d]
def strsD : List Tx → DenG (List Val)
  | [] => dNil
  | a :: r => dCons (dC (.str a)) (strsD r)
theorem strsD_run (l : GH.Loc) (h : Hv) : ∀ ws : List Tx, strsD ws l h = .ok (ws.map .str) h
  | [] => rfl
  | a :: r => by simp [strsD, strsD_run l h r]
theorem inLd {dd : Den} (L : List Tx) (hl : dd l h = .ok (.str w) h) (n : L.length ≤ 100) (ow : okV (.str w) = true) (o : TxOk L) (d : decide (w ∈ L) = c) : dB (dBin vIn dd (dLst (strsD L))) l h = .ok c h := by
  simp only [e_b, e_bin, hl, Res.bind_ok, e_lst, strsD_run]
  rw [mkL_ok (by simp; omega)]
  simp only [Res.bind_ok, vIn_lstTxt ow o, resB_bl, d]
theorem eqT {dd : Den} {u : Tx} (hl : dd l h = .ok (.str w) h) (d : decide (w = u) = c) : dB (dBin vEq dd (dC (.str u))) l h = .ok c h := by
  simp only [e_b, e_bin, hl, Res.bind_ok, e_c, vEq_str, resB_bl, d]
end
theorem vMax_ints {L : List Int} {m : Int} (e : L.max? = some m) (h : Hv) : vMax (.lst (L.map .int)) h = .ok (.int m) h := by
  have z : ∀ L : List Int, intsOf (L.map .int) = some L := fun L => by
    induction L with
    | nil => rfl
    | cons a L ih => simp [intsOf, ih]
  simp [vMax, lstOf, z, e]
theorem if2_ {t : DenG Bool} {a b rest : Stm} {l : GH.Loc} {h : Hv} {P : Post} {c : Bool} (e : t l h = .ok c h) (z1 : c = true → sok (a l h) { P with nx := fun l h => sok (rest l h) P }) (z2 : c = false → sok (b l h) { P with nx := fun l h => sok (rest l h) P }) : sok (sSeq (sIf t a b) rest l h) P := by
  rw [e_seq, sok_then]
  simp only [e_if, e, Res.to_ok]
  cases c with
  | true => simpa using z1 rfl
  | false => simpa using z2 rfl
theorem expr_ {d : Den} {rest : Stm} {l : GH.Loc} {h h1 : Hv} {v : Val} {P : Post} (e : d l h = .ok v h1) (z : sok (rest l h1) P) : sok (sSeq (sExpr d) rest l h) P := by
  rw [e_seq, sok_then, e_expr, e]
  exact z
theorem lcL_filL {α : Type} (V : α → Val) (F : α → Bool) (G : α → Val) {t : Tg} {c : DenG Bool} {e : Den} {s : Src} {l : GH.Loc} {h : Hv} (hs : srcOk s h) : ∀ (L : List α) (acc : List Val), (∀ p ∈ L, ∃ l1, t (V p) l h = .ok l1 h ∧ c l1 h = .ok (F p) h ∧ (F p = true → e l1 h = .ok (G p) h)) → lcL t c e s (L.map V) acc l h = .ok (acc ++ (L.filter F).map G) h
  | [], acc, _ => by simp [lcL, hs]
  | x :: r, acc, q => by
    obtain ⟨l1, e1, e2, e3⟩ := q x (List.mem_cons_self ..)
    have ih := fun acc => lcL_filL V F G (t := t) (c := c) (e := e) (l := l) hs r acc fun y hy => q y (List.mem_cons_of_mem _ hy)
    simp only [List.map_cons, lcL, if_pos hs, e1, e2]
    cases ef : F x with
    | true => simp [e3 ef, ih, ef]
    | false => simp [ih, ef]
theorem lcL_mapL {α : Type} (V : α → Val) (G : α → Val) {t : Tg} {e : Den} {s : Src} {l : GH.Loc} {h : Hv} (hs : srcOk s h) (L : List α) (acc : List Val) (q : ∀ p ∈ L, ∃ l1, t (V p) l h = .ok l1 h ∧ e l1 h = .ok (G p) h) : lcL t dYes e s (L.map V) acc l h = .ok (acc ++ L.map G) h := by
  rw [lcL_filL V (fun _ => true) G hs L acc fun p hp => ?_]
  · rw [List.filter_eq_self.mpr fun _ _ => rfl]
  · obtain ⟨l1, e1, e2⟩ := q p hp
    exact ⟨l1, e1, rfl, fun _ => e2⟩
theorem dif_ {t : DenG Bool} {a b : Den} {l : GH.Loc} {h h1 : Hv} {P : Val → Hv → Prop} {c : Bool} (e : t l h = .ok c h1) (z1 : c = true → ok (a l h1) P) (z2 : c = false → ok (b l h1) P) : ok (dIf t a b l h) P := by
  rw [e_dif, e]
  cases c with
  | true => simpa using z1 rfl
  | false => simpa using z2 rfl
end GH
set_option Elab.async false
set_option linter.all false
set_option maxRecDepth 100000
set_option maxHeartbeats 4000000
set_option autoImplicit false
/-! objects of the program's classes: attributes, methods, makers. -/
namespace GH
open PySem PySem.Spec PyProof.Rows L2
variable [TheWorld]
def fput (f : Tx) (v : Val) : List (Tx × Val) → List (Tx × Val)
  | [] => [(f, v)]
  | (g, x) :: r => if g = f then (g, v) :: r else (g, x) :: fput f v r
def fget (f : Tx) : List (Tx × Val) → Option Val
  | [] => none
  | (g, x) :: r => if g = f then some x else fget f r
section
variable {K : PySem.W.Frag} {g : Gh} {H : Hp}
theorem FR.inv {p : Tx × Val} {fs : List (Tx × Val)} {gs : List (Str × V)} (r : FR K g H (p :: fs) gs) : ∃ x gs', gs = (sOf p.1, x) :: gs' ∧ VR K g H p.2 x ∧ FR K g H fs gs' := by
  obtain ⟨e, r⟩ := r
  cases gs with
  | nil => cases e
  | cons q gs' =>
    simp only [List.map_cons, List.cons.injEq] at e
    simp only [List.map_cons, VRs] at r
    obtain ⟨x, r', e2, r1, r2⟩ := r
    obtain ⟨e3, e4⟩ := List.cons.inj e2
    refine ⟨q.2, gs', by rw [← e.1], by rw [e3]; exact r1, e.2, by rw [e4]; exact r2⟩
theorem FR.nilInv {gs : List (Str × V)} (r : FR K g H [] gs) : gs = [] := by
  cases gs with
  | nil => rfl
  | cons q gs' => cases r.1
theorem FR.cons {p : Tx × Val} {fs : List (Tx × Val)} {x : V} {gs : List (Str × V)} (r : VR K g H p.2 x) (t : FR K g H fs gs) : FR K g H (p :: fs) ((sOf p.1, x) :: gs) :=
  ⟨by simp only [List.map_cons, t.1], by simp only [List.map_cons]; exact VRs.cons r t.2⟩
theorem FR.length {fs : List (Tx × Val)} {gs : List (Str × V)} (r : FR K g H fs gs) : gs.length = fs.length := by
  have := congrArg List.length r.1
  simpa using this
theorem FR.get {f : Tx} : ∀ {fs : List (Tx × Val)} {gs : List (Str × V)}, FR K g H fs gs → (∀ v, fget f fs = some v → ∃ x, gs.lookup (sOf f) = some x ∧ VR K g H v x) ∧ (fget f fs = none → gs.lookup (sOf f) = none)
  | [], gs, r => by rw [r.nilInv]; exact ⟨(fun v e => by cases e), (fun _ => rfl)⟩
  | p :: fs, gs, r => by
    obtain ⟨x, gs', rfl, r1, r2⟩ := r.inv
    obtain ⟨a, b⟩ := FR.get (f := f) r2
    obtain ⟨pf, pv⟩ := p
    unfold fget
    by_cases h : pf = f
    · subst h
      simp only [if_true]
      refine ⟨fun v e => ?_, fun e => by cases e⟩
      cases e
      exact ⟨x, by simp [List.lookup], r1⟩
    · have h2 : (sOf f == sOf pf) = false := by
        simp only [beq_eq_false_iff_ne, ne_eq]
        exact fun e => h (sOf_inj e).symm
      simp only [if_neg h, List.lookup, h2]
      exact ⟨a, b⟩
theorem FR.put {f : Tx} {v : Val} {x : V} (rx : VR K g H v x) : ∀ {fs : List (Tx × Val)} {gs : List (Str × V)}, FR K g H fs gs → FR K g H (fput f v fs) (putF (sOf f) x gs)
  | [], gs, r => by rw [r.nilInv]; exact FR.cons (p := (f, v)) rx ⟨rfl, VRs.nil⟩
  | p :: fs, gs, r => by
    obtain ⟨y, gs', rfl, r1, r2⟩ := r.inv
    obtain ⟨pf, pv⟩ := p
    unfold fput putF
    by_cases h : pf = f
    · subst h
      rw [if_pos rfl, if_pos rfl]
      exact FR.cons (p := (pf, v)) rx r2
    · rw [if_neg h, if_neg fun e => h (sOf_inj e)]
      exact FR.cons (p := (pf, pv)) r1 (FR.put rx r2)
end
/-- the object that v is, of the class c -/
def insOf (c : Tx) (h : Hv) (v : Val) : Option (Nat × List (Tx × Val)) := match v with
  | .ref i => match h[i]? with
    | some (.ins c' fs) => if c' = c then some (i, fs) else none
    | _ => none
  | _ => none
section
variable {X : Cx} {W : WX}
theorem insOf_ok {K : PySem.W.Frag} {g : Gh} {H : Hp} {h : Hv} {v : Val} {x : V} {c : Tx} {i : Nat} {fs : List (Tx × Val)} (R : HR K g H h) (r : VR K g H v x) (e : insOf c h v = some (i, fs)) :
    v = .ref i ∧ ∃ a dx gs, x = .ref a ∧ g.m[i]? = some a ∧ H a = some (.ins (clsA K c) dx gs) ∧ FR K g H fs gs := by
  unfold insOf at e
  split at e
  · rename_i j
    split at e
    · rename_i c' fs' he
      split at e
      · rename_i hc
        subst hc
        cases e
        simp only [VR] at r
        obtain ⟨a, rfl, hm⟩ := r
        obtain ⟨dx, gs, e1, e2⟩ := ref_at R he hm
        exact ⟨rfl, a, dx, gs, rfl, hm, e1, e2⟩
      · cases e
    · cases e
  · cases e
/-- o.f -/
def dFld (c f : Tx) (o : Den) : Den := fun l h => (o l h).bind fun v h1 => match insOf c h1 v with
  | some (_, fs) => (match fget f fs with
    | some w => .ok w h1
    | none => .fail)
  | none => .fail
theorem ge_fld (c f : Tx) {o : Expr} {d : Den} {x : Str} {pos : Pos} (ho : GE X W o d) (cl : Cls X.K (clsA X.K c)) (n : NoAttr X.K (clsA X.K c) (sOf f)) (hx : x = sOf f := by decide +kernel) (hb : attributeBase o x X.env (eval o X.env) = eval o X.env := by rfl) : GE X W (.Attribute o x pos) (dFld c f d) := by
  subst hx
  refine PE.imp (pe_fld ho hb) fun σ H Q ⟨g, l, h, S, R, A⟩ => ?_
  refine tG_of S R A fun v h1 g1 H1 x E S1 R1 r1 A1 => ?_
  split at A1
  · rename_i i fs e
    obtain ⟨rfl, a, dx, gs, rfl, hm, ha, fr⟩ := insOf_ok R1 r1 e
    split at A1
    · rename_i w ew
      obtain ⟨y, e1, r2⟩ := (FR.get fr).1 w ew
      exact ⟨a, _, dx, gs, y, rfl, ha, cl, n, e1, A1 g1 H1 y Ext.refl R1 r2⟩
    · exact A1.elim
  · exact A1.elim
/-- o.f as a target -/
def gFld (c f : Tx) (o : Den) : Tg := fun v l h => (o l h).toT l fun x h1 => match insOf c h1 x with
  | some (i, fs) => if fs.length < 1000 then .ok l (h1.set i (.ins c (fput f v fs))) else .fail
  | none => .fail
def gFldT (K : PySem.W.Frag) (to : TE) (f : Str) : TG := fun v σ H Q => to σ H fun x H1 => ∃ a C dx fs, x = .ref a ∧ H1 a = some (.ins C dx fs) ∧ Cls K C ∧ NoAttr K C f ∧ fs.length < 1000 ∧ Q σ (upd H1 a (.ins C dx (putF f v fs)))
theorem pg_fld {o : Expr} {to : TE} {f : Str} {pos : Pos} (ho : PE X o to) (ha : ∀ v, assign (.Attribute o f pos) X.env v = (do
      let ov ← holding [v] (eval o X.env)
      standAt pos.atName
      holding [v, ov] (setAttr ov f v)
      release [v, ov] []) := by intro _; rfl) : PG X (.Attribute o f pos) (gFldT X.K to f) := by
  refine ⟨fun pins s σ H v u Q I r h => ?_⟩
  rw [ha]
  refine wpAny_bind (wpAny_holding (thn (ho.run pins s σ H _ I h) fun ov s1 ⟨x, H1, I1, r1, a, C, dx, fs, ex, ea, c, n, l, q1⟩ => ?_))
  subst ex
  obtain rfl : ov = Value.ref a := r1
  refine wpAny_bind (wpAny_standAt (wpAny_bind (wpAny_holding (setattr_ok I1 ea c n l r fun s3 I3 => ?_))))
  exact wpAny_release ⟨σ, _, I3, q1⟩
theorem HR.writeIns {K : PySem.W.Frag} {g : Gh} {H : Hp} {h : Hv} (R : HR K g H h) {c f : Tx} {i : Nat} {a dx : Addr} {fs : List (Tx × Val)} {gs : List (Str × V)} {v : Val} {x : V} (hm : g.m[i]? = some a) (fr : FR K g H fs gs) (rx : VR K g H v x) :
    Ext g H g (upd H a (.ins (clsA K c) dx (putF (sOf f) x gs))) ∧ HR K g (upd H a (.ins (clsA K c) dx (putF (sOf f) x gs))) (h.set i (.ins c (fput f v fs))) :=
  R.write (ob := .ins c (fput f v fs)) (o' := .ins (clsA K c) dx (putF (sOf f) x gs)) hm fun E => ⟨dx, _, upd_same, FR.put (rx.ext R E) ⟨fr.1, fr.2.ext R E⟩⟩
theorem gg_fld (c f : Tx) {o : Expr} {d : Den} {x : Str} {pos : Pos} (ho : GE X W o d) (cl : Cls X.K (clsA X.K c)) (n : NoAttr X.K (clsA X.K c) (sOf f)) (hx : x = sOf f := by decide +kernel) (ha : ∀ v, assign (.Attribute o x pos) X.env v = (do
      let ov ← holding [v] (eval o X.env)
      standAt pos.atName
      holding [v, ov] (setAttr ov x v)
      release [v, ov] []) := by intro _; rfl) : GG X W (.Attribute o x pos) (gFld c f d) := by
  subst hx
  refine PG.imp (pg_fld ho ha) fun y σ H Q ⟨g, l, h, v, S, R, r, A⟩ => ?_
  refine tG_T S R A fun x h1 g1 H1 x' E S1 R1 r1 A1 => ?_
  split at A1
  · rename_i i fs e
    obtain ⟨rfl, a, dx, gs, rfl, hm, ha, fr⟩ := insOf_ok R1 r1 e
    split at A1
    · rename_i hl
      obtain ⟨E2, R2⟩ := R1.writeIns (c := c) (f := f) (dx := dx) hm fr (r.ext R E)
      exact ⟨a, _, dx, gs, rfl, ha, cl, n, by rw [fr.length]; exact hl, A1 g1 _ σ E2 R2 (S1.ext R1 E2)⟩
    · exact A1.elim
  · exact A1.elim
/-- o.f = e -/
theorem gs_fld (c f : Tx) {o e : Expr} {d de : Den} {x : Str} {pos pos' : Pos} (he : GE X W e de) (ho : GE X W o d) (cl : Cls X.K (clsA X.K c)) (n : NoAttr X.K (clsA X.K c) (sOf f)) (hx : x = sOf f := by decide +kernel) (hs : swapsWith e (some (.Attribute o x pos')) pos.line X.env = pure false := by rfl) :
    GS X W (.Assign [.Attribute o x pos'] e pos) (sAsg de (gFld c f d)) := by
  subst hx
  refine PS.imp (ps_fld ho he hs) fun D σ H ⟨g, l, h, S, R, A⟩ => ?_
  refine tG_to S R A fun y h1 g1 H1 y' E S1 R1 ry A1 => ?_
  unfold gFld at A1
  cases eo : d l h1 with
  | ok x h2 =>
    rw [eo] at A1
    refine ⟨g1, l, h1, S1, R1, ?_⟩
    rw [eo]
    intro g2 H2 x' E2 R2 rx
    simp only [Res.toT_ok] at A1
    cases ei : insOf c h2 x with
    | none => rw [ei] at A1; exact A1.elim
    | some q =>
      obtain ⟨i, fs⟩ := q
      rw [ei] at A1
      simp only at A1
      obtain ⟨rfl, a, dx, gs, rfl, hm, ha, fr⟩ := insOf_ok R2 rx ei
      split at A1
      · rename_i hl
        obtain ⟨E3, R3⟩ := R2.writeIns (c := c) (f := f) (dx := dx) hm fr (ry.ext R1 E2)
        exact ⟨a, _, dx, gs, rfl, ha, cl, n, by rw [fr.length]; exact hl, A1 g2 _ σ (E2.trans E3) R3 (S1.ext R1 (E2.trans E3))⟩
      · exact A1.elim
  | exc x h2 =>
    rw [eo] at A1
    refine ⟨g1, l, h1, S1, R1, ?_⟩
    rw [eo]
    exact fun g2 H2 cls dd E2 R2 re => A1 g2 H2 σ cls dd E2 R2 (S1.ext R1 E2) re
  | fail => rw [eo] at A1; exact A1.elim
/-- o.f += e, whole numbers -/
def sFldAug (c f : Tx) (o e : Den) : Stm := fun l h => (o l h).to l fun x h1 => match insOf c h1 x with
  | some (_, fs) => (match fget f fs with
    | some (.int i) => (e l h1).to l fun y h2 => (match y with
      | .int j => (match insOf c h2 x with
        | some (k, fs') => if fs'.length < 1000 then .nx l (h2.set k (.ins c (fput f (.int (i + j)) fs'))) else .fail
        | none => .fail)
      | _ => .fail)
    | _ => .fail)
  | none => .fail
theorem gs_fldaug (c f : Tx) {o e : Expr} {d de : Den} {x : Str} {pos tpos : Pos} (ho : GE X W o d) (he : GE X W e de) (cl : Cls X.K (clsA X.K c)) (n : NoAttr X.K (clsA X.K c) (sOf f)) (hx : x = sOf f := by decide +kernel) :
    GS X W (.AugAssign (.Attribute o x tpos) .Add e pos) (sFldAug c f d de) := by
  subst hx
  refine PS.imp (ps_fldaug ho he in_add) fun D σ H ⟨g, l, h, S, R, A⟩ => ?_
  refine tG_to S R A fun x h1 g1 H1 x' E S1 R1 r1 A1 => ?_
  split at A1
  · rename_i q fs e0
    obtain ⟨rfl, a, dx, gs, rfl, hm, ha, fr⟩ := insOf_ok R1 r1 e0
    split at A1
    · rename_i i ei
      obtain ⟨y, e1, r2⟩ := (FR.get fr).1 _ ei
      simp only [VR] at r2
      subst r2
      refine ⟨a, _, dx, gs, _, rfl, ha, cl, n, e1, ?_⟩
      refine tG_to S1 R1 A1 fun y h2 g2 H2 y' E2 S2 R2 ry A2 => ?_
      split at A2
      · rename_i j
        simp only [VR] at ry
        subst ry
        split at A2
        · rename_i k fs' e3
          obtain ⟨e4, a', dx', gs', e5, hm', ha', fr'⟩ := insOf_ok R2 (r1.ext R1 E2) e3
          cases e5
          split at A2
          · rename_i hl
            obtain ⟨E3, R3⟩ := R2.writeIns (c := c) (f := f) (dx := dx') (v := .int (i + j)) (x := .int (i + j)) hm' fr' (by simp only [VR])
            exact ⟨i, j, rfl, rfl, dx', gs', ha', by rw [fr'.length]; exact hl, A2 g2 _ σ E3 R3 (S2.ext R2 E3)⟩
          · exact A2.elim
        · exact A2.elim
      · exact A2.elim
    · exact A1.elim
  · exact A1.elim
/-! methods -/
/-- a method of the class c keeps D -/
structure FnM (P : Program) (w : World) (K : PySem.W.Frag) (mg : Str → Option Value) (base : Heap) (k : Nat) (D : DF) (c m : Tx) (ps : List Str) : Prop where
  ok : ∃ fd, FnOk P w K mg base (L2.CX P w) k (He.ma K (clsA K c) (sOf m)) fd ps (spG K D ps.length) ∧ Binds K fd ps []
  me : Meth K (clsA K c) (sOf m) (He.ma K (clsA K c) (sOf m))
def AllM (P : Program) (w : World) (K : PySem.W.Frag) (mg : Str → Option Value) (base : Heap) (msig : List (Tx × Tx × List Str)) (n0 k : Nat) (Γ : Gam) : Prop := ∀ (j : Nat) (c m : Tx) (ps : List Str), msig[j]? = some (c, m, ps) → FnM P w K mg base k (Γ (n0 + j)) c m ps
theorem pe_methS' {CX : CXT} {k : Nat} {C f : Addr} {fd : FuncData} {ps : List Str} {sp : Sp} {E : L2.St → XK} {m : Str} {pos apos : Pos} {o e : Expr} {es : List Expr} {ta : TE} {t : TA} {pl : Sem Bool} (he : PE X o ta) (c : Cls X.K C) (hm : Meth X.K C m f) (F : FnOk X.prog X.w X.K X.mg X.base CX k f fd ps sp) (hr : Room k X.A) (hb : Binds X.K fd ps []) (hx : ∀ σ, PassesAt CX X σ (E σ)) (ha : PA X (e :: es) t)
    (hst : starEach (e :: es) X.env = (false, eval e X.env) :: starEach es X.env := by rfl) (hpl : (backTo pos (starEach es X.env)).any (·.1) = false := by rfl)
    (ht : eval (.Call (.Attribute o m apos) (e :: es) [] pos) X.env = (do
      let ov ← eval o X.env
      standAt apos.atName
      let (f, first) ← holding [ov] (getMethod ov m pl)
      callWith pos f first (backTo pos (starEach (e :: es) X.env)) (backToKw pos (keywordEach [] X.env))) := by rfl) :
    PE X (.Call (.Attribute o m apos) (e :: es) [] pos) (fun σ H Q => ta σ H fun x H1 => ∃ a dx fs, x = .ref a ∧ H1 a = some (.ins C dx fs) ∧ fs.lookup m = none ∧ t σ H1 fun vs H2 => sp (x :: vs) H2 Q (E σ)) := by
  refine ⟨fun pins s σ H Q I h => ?_⟩
  refine PySem.W.methodCall_KW (pl := pl) (thn (he.run pins s σ H _ I h) fun u s1 ⟨x, H1, I1, rx, a, dx, fs, ex, ea, l, q⟩ => ?_) ht
  subst ex
  obtain rfl : u = Value.ref a := rx
  refine getmeth_ok I1 ea c hm l ?_
  refine PySem.W.callWith_K (first := [.ref a]) (h₀ := X.base) I.ok.mod.kin hm.kp (thn (ha.run pos pins s1 σ H1 _ I1 q) fun us s2 ⟨vs, H2, I2, r, q2⟩ => ⟨I2.kIn, ?_⟩) hst hpl
  exact run_fnS (us := .ref a :: us) (vs := .ref a :: vs) F hr hb (hx σ) I2 (.cons rfl r) q2
theorem pe_methS0' {CX : CXT} {k : Nat} {C f : Addr} {fd : FuncData} {ps : List Str} {sp : Sp} {E : L2.St → XK} {m : Str} {pos apos : Pos} {o : Expr} {ta : TE} {pl : Sem Bool} (he : PE X o ta) (c : Cls X.K C) (hm : Meth X.K C m f) (F : FnOk X.prog X.w X.K X.mg X.base CX k f fd ps sp) (hr : Room k X.A) (hb : Binds X.K fd ps []) (hx : ∀ σ, PassesAt CX X σ (E σ))
    (ht : eval (.Call (.Attribute o m apos) [] [] pos) X.env = (do
      let ov ← eval o X.env
      standAt apos.atName
      let (f, first) ← holding [ov] (getMethod ov m pl)
      callWith pos f first (backTo pos (starEach [] X.env)) (backToKw pos (keywordEach [] X.env))) := by rfl) :
    PE X (.Call (.Attribute o m apos) [] [] pos) (fun σ H Q => ta σ H fun x H1 => ∃ a dx fs, x = .ref a ∧ H1 a = some (.ins C dx fs) ∧ fs.lookup m = none ∧ sp [x] H1 Q (E σ)) := by
  refine ⟨fun pins s σ H Q I h => ?_⟩
  refine PySem.W.methodCall_KW (pl := pl) (thn (he.run pins s σ H _ I h) fun u s1 ⟨x, H1, I1, rx, a, dx, fs, ex, ea, l, q⟩ => ?_) ht
  subst ex
  obtain rfl : u = Value.ref a := rx
  refine getmeth_ok I1 ea c hm l ?_
  exact PySem.W.callWith_K0 (first := [.ref a]) I1.kIn hm.kp (run_fnS (us := [.ref a]) (vs := [.ref a]) F hr hb (hx σ) I1 (.cons rfl .nil) q)
/-- o.m(..) -/
def dMth (c m : Tx) (D : DF) (o : Den) (r : DenG (List Val)) : Den := fun l h => (o l h).bind fun x h1 => match insOf c h1 x with
  | some (_, fs) => (match fget m fs with
    | none => (r l h1).bind fun vs h2 => D (x :: vs) h2
    | some _ => .fail)
  | none => .fail
theorem ge_mth (c m : Tx) {D : DF} {k n : Nat} {ps : List Str} {x : Str} {apos pos : Pos} {o e : Expr} {es : List Expr} {d : Den} {da : DenG (List Val)} {pl : Sem Bool} (ho : GE X W o d) (cl : Cls X.K (clsA X.K c)) (F : FnM X.prog X.w X.K X.mg X.base k D c m ps) (hr : Room k X.A) (tk : Takes X W) (ha : GAN X W (e :: es) n da) (hx : x = sOf m := by decide +kernel)
    (hn : n + 1 = ps.length := by rfl) (he : starEach (e :: es) X.env = (false, eval e X.env) :: starEach es X.env := by rfl) (hpl : (backTo pos (starEach es X.env)).any (·.1) = false := by rfl)
    (ht : eval (.Call (.Attribute o x apos) (e :: es) [] pos) X.env = (do
      let ov ← eval o X.env
      standAt apos.atName
      let (f, first) ← holding [ov] (getMethod ov x pl)
      callWith pos f first (backTo pos (starEach (e :: es) X.env)) (backToKw pos (keywordEach [] X.env))) := by rfl) : GE X W (.Call (.Attribute o x apos) (e :: es) [] pos) (dMth c m D d da) := by
  subst hx
  obtain ⟨fd, F1, b⟩ := F.ok
  refine PE.imp (pe_methS' ho cl F.me F1 hr b (fun σ => passAt tk σ) ha.ga he hpl ht) fun σ H Q ⟨g, l, h, S, R, A⟩ => ?_
  refine tG_of S R A fun x h1 g1 H1 x' E S1 R1 r1 A1 => ?_
  split at A1
  · rename_i q fs e0
    obtain ⟨rfl, a, dx, gs, rfl, hm, ha', fr⟩ := insOf_ok R1 r1 e0
    split at A1
    · rename_i ef
      refine ⟨a, dx, gs, rfl, ha', (FR.get fr).2 ef, ?_⟩
      refine ⟨g1, l, h1, S1, R1, ?_⟩
      cases ed : da l h1 with
      | ok vs h2 =>
        rw [ed] at A1
        intro g' H' ws E2 R' r
        exact spG_of (by rw [List.length_cons, ha.len l h1 vs h2 ed, hn]) R' (VRs.cons (r1.ext R1 E2) r) (After.ext E2 A1)
      | exc x h2 => rw [ed] at A1; exact A1
      | fail => rw [ed] at A1; exact A1
    · exact A1.elim
  · exact A1.elim
theorem ge_mth0 (c m : Tx) {D : DF} {k : Nat} {ps : List Str} {x : Str} {apos pos : Pos} {o : Expr} {d : Den} {pl : Sem Bool} (ho : GE X W o d) (cl : Cls X.K (clsA X.K c)) (F : FnM X.prog X.w X.K X.mg X.base k D c m ps) (hr : Room k X.A) (tk : Takes X W) (hx : x = sOf m := by decide +kernel)
    (hn : 1 = ps.length := by rfl)
    (ht : eval (.Call (.Attribute o x apos) [] [] pos) X.env = (do
      let ov ← eval o X.env
      standAt apos.atName
      let (f, first) ← holding [ov] (getMethod ov x pl)
      callWith pos f first (backTo pos (starEach [] X.env)) (backToKw pos (keywordEach [] X.env))) := by rfl) : GE X W (.Call (.Attribute o x apos) [] [] pos) (dMth c m D d dNil) := by
  subst hx
  obtain ⟨fd, F1, b⟩ := F.ok
  refine PE.imp (pe_methS0' ho cl F.me F1 hr b (fun σ => passAt tk σ) ht) fun σ H Q ⟨g, l, h, S, R, A⟩ => ?_
  refine tG_of S R A fun x h1 g1 H1 x' E S1 R1 r1 A1 => ?_
  split at A1
  · rename_i q fs e0
    obtain ⟨rfl, a, dx, gs, rfl, hm, ha', fr⟩ := insOf_ok R1 r1 e0
    split at A1
    · rename_i ef
      exact ⟨a, dx, gs, rfl, ha', (FR.get fr).2 ef, spG_of (by rw [← hn]; rfl) R1 (VRs.one r1) A1⟩
    · exact A1.elim
  · exact A1.elim
/-! C(..) -/
theorem run_makeS {CX : CXT} {k : Nat} {C f : Addr} {fd : FuncData} {ps : List Str} {sp : Sp} {E : L2.St → XK} {pins : List (Addr × Obj)} {σ : L2.St} {H : Hp} {s : Shared} {Q : VK} {us : List Value} {vs : List V} (M : Mk X.K C f) (F : FnOk X.prog X.w X.K X.mg X.base CX k f fd ps sp) (hr : Room (k + 1) X.A) (hb : Binds X.K fd ps [])
    (hx : PassesAt CX X σ (E σ)) (I : Inv X pins σ H s) (r : Vals vs us)
    (h : ∀ x dx, H x = none → H dx = none → dx ≠ x → sp (.ref x :: vs) (upd (upd H dx (.own x)) x (.ins C dx [])) (fun v H2 => v = .non ∧ Q (.ref x) H2) (E σ)) :
    wpAny (model X.prog X.w) X.A (call (.ref C) us) (EP X pins σ Q) X.xe s := by
  have hq := h (s.heap.objs.size + 1) s.heap.objs.size (I.hok.fresh (Nat.le_succ _)) (I.hok.fresh (Nat.le_refl _)) (Nat.ne_of_lt (Nat.lt_succ_self _))
  have I2 := Inv.made (C := C) I
  have r2 : Vals (V.ref (s.heap.objs.size + 1) :: vs) (Value.ref (s.heap.objs.size + 1) :: us) := .cons rfl r
  have hl : (Value.ref (s.heap.objs.size + 1) :: us).length = ps.length := by
    have e := r2.length
    rw [F.len _ _ _ _ hq] at e
    exact e.symm
  have b := hb _ (Value.ref (s.heap.objs.size + 1) :: us) I2.kIn (by rw [List.append_nil]; exact hl)
  rw [List.append_nil] at b
  refine wpAny_call (make_map (f := f) I.kIn M.makes M.init (beq_iff_eq.mp M.fn) (codeAny_mono (F.run _ X.stack _ _ ⟨Value.ref (s.heap.objs.size + 1) :: us, []⟩ (Value.ref (s.heap.objs.size + 1) :: us) _ _ (E σ) (hr.make C us [])
    (I2.env0.make C us []) b r2 hq) fun r s' hq' => ?_))
  cases r with
  | error e => exact hx pins _ _ e s' I2 hq'
  | ok fl =>
    cases fl with
    | ret u =>
      obtain ⟨v, H', I3, rv, ev, q3⟩ := I2.after hq'
      subst ev
      exact ⟨rv, ⟨V.ref (s.heap.objs.size + 1), H', I3, rfl, q3⟩⟩
    | next => exact False.elim hq'
    | brk => exact False.elim hq'
    | cont => exact False.elim hq'
theorem pe_makeS {CX : CXT} {k : Nat} {C f : Addr} {fd : FuncData} {ps : List Str} {sp : Sp} {E : L2.St → XK} {x : Str} {p pos : Pos} {e : Expr} {es : List Expr} {t : TA} (M : Mk X.K C f) (F : FnOk X.prog X.w X.K X.mg X.base CX k f fd ps sp) (hr : Room (k + 1) X.A) (hg : Gl X x) (hm : X.mg x = some (.ref C)) (hb : Binds X.K fd ps []) (hx : ∀ σ, PassesAt CX X σ (E σ))
    (ha : PA X (e :: es) t) (hdb : (x == ("__debug__" : Str)) = false := by decide) (he : starEach (e :: es) X.env = (false, eval e X.env) :: starEach es X.env := by rfl) (hpl : (backTo pos (starEach es X.env)).any (·.1) = false := by rfl) :
    PE X (.Call (.Name x p) (e :: es) [] pos) (fun σ H Q => t σ H fun vs H1 => ∀ x dx, H1 x = none → H1 dx = none → dx ≠ x → sp (.ref x :: vs) (upd (upd H1 dx (.own x)) x (.ins C dx [])) (fun v H2 => v = .non ∧ Q (.ref x) H2) (E σ)) := by
  refine ⟨fun pins s σ H Q I h => ?_⟩
  refine wpAny_Call_Name_kw (ld_glob I hg hm ?_ hdb)
  refine PySem.W.callWith_K (h₀ := X.base) I.ok.mod.kin M.kp (thn (ha.run pos pins s σ H _ I h) fun us s1 ⟨vs, H1, I1, r, q⟩ => ⟨I1.kIn, ?_⟩) he hpl
  exact run_makeS M F hr hb (hx σ) I1 r q
def dMake (c : Tx) (D : DF) (r : DenG (List Val)) : Den := fun l h => (r l h).bind fun vs h1 => (D (.ref h1.length :: vs) (h1 ++ [.ins c []])).bind fun v h2 => match v with
  | .non => .ok (.ref h1.length) h2
  | _ => .fail
theorem ge_make (c : Tx) {D : DF} {k n : Nat} {ps : List Str} {x : Str} {p pos : Pos} {e : Expr} {es : List Expr} {da : DenG (List Val)} (F : FnM X.prog X.w X.K X.mg X.base k D c [95, 95, 105, 110, 105, 116, 95, 95] ps) (M : Mk X.K (clsA X.K c) (He.ma X.K (clsA X.K c) (sOf [95, 95, 105, 110, 105, 116, 95, 95]))) (hm : X.mg x = some (.ref (clsA X.K c))) (hr : Room (k + 1) X.A) (tk : Takes X W) (ha : GAN X W (e :: es) n da)
    (hn : n + 1 = ps.length := by rfl) (hg : Gl X x := by rfl) (hdb : (x == ("__debug__" : Str)) = false := by decide +kernel)
    (he : starEach (e :: es) X.env = (false, eval e X.env) :: starEach es X.env := by rfl) (hpl : (backTo pos (starEach es X.env)).any (·.1) = false := by rfl) : GE X W (.Call (.Name x p) (e :: es) [] pos) (dMake c D da) := by
  obtain ⟨fd, F1, b⟩ := F.ok
  refine PE.imp (pe_makeS M F1 hr hg hm b (fun σ => passAt tk σ) ha.ga hdb he hpl) fun σ H Q ⟨g, l, h, S, R, A⟩ => ?_
  refine ⟨g, l, h, S, R, ?_⟩
  unfold dMake at A
  cases ed : da l h with
  | ok vs h1 =>
    rw [ed] at A
    intro g1 H1 ws E R1 r x dx nx ndx ne
    obtain ⟨Ea, Ra⟩ := R1.grow (o := .own x) ndx
    have nx2 : upd H1 dx (.own x) x = none := by rw [upd_ne (Ne.symm ne)]; exact nx
    obtain ⟨Eb, Rb⟩ := Ra.push (o := .ins (clsA X.K c) dx []) (ob := .ins c []) nx2 ⟨dx, [], upd_same, rfl, VRs.nil⟩
    have A2 := After.ext (E.trans (Ea.trans Eb)) A
    simp only [Res.bind_ok] at A2
    have rx : VR X.K ⟨g1.m ++ [x], g1.r⟩ (upd (upd H1 dx (.own x)) x (.ins (clsA X.K c) dx [])) (.ref h1.length) (.ref x) := by
      simp only [VR]
      refine ⟨x, rfl, ?_⟩
      rw [← R1.len]
      simp
    refine spG_of (W := W) (σ := σ) (args := .ref h1.length :: vs) (by rw [List.length_cons, ha.len l h vs h1 ed, hn]) Rb (VRs.cons rx (r.ext R1 (Ea.trans Eb))) ?_
    cases eD : D (.ref h1.length :: vs) (h1 ++ [.ins c []]) with
    | ok v h2 =>
      rw [eD] at A2
      simp only [Res.bind_ok] at A2
      intro g' H' x' E' R' r'
      cases v with
      | non =>
        simp only [VR] at r'
        exact ⟨r', A2 g' H' _ E' R' (rx.ext Rb E')⟩
      | _ => exact A2.elim
    | exc y h2 => rw [eD] at A2; exact A2
    | fail => rw [eD] at A2; exact A2
  | exc x h1 => rw [ed] at A; exact A
  | fail => rw [ed] at A; exact A
end
theorem levels2 {P : Program} {w : World} {K : PySem.W.Frag} {mg : Str → Option Value} {base : Heap} {sig : List (Str × List Str)} {msig : List (Tx × Tx × List Str)} {n0 : Nat} {D : Gam → Gam}
    (h0 : ∀ (j : Nat) (x : Str) (ps : List Str), sig[j]? = some (x, ps) → mg x = some (.ref (He.ga K x)) ∧ PySem.W.keepIn K (.ref (He.ga K x)) = true ∧ ∃ fd, Binds K fd ps [])
    (m0 : ∀ (j : Nat) (c m : Tx) (ps : List Str), msig[j]? = some (c, m, ps) → Meth K (clsA K c) (sOf m) (He.ma K (clsA K c) (sOf m)) ∧ ∃ fd, Binds K fd ps [])
    (step : ∀ k Γ, AllK P w K mg base sig k Γ → AllM P w K mg base msig n0 k Γ → (∀ (j : Nat) (x : Str) (ps : List Str), sig[j]? = some (x, ps) → FnK P w K mg base (k + 2) (D Γ j) x ps) ∧ ∀ (j : Nat) (c m : Tx) (ps : List Str), msig[j]? = some (c, m, ps) → FnM P w K mg base (k + 2) (D Γ (n0 + j)) c m ps) :
    ∀ k, AllK P w K mg base sig (2 * k) (lev D k) ∧ AllM P w K mg base msig n0 (2 * k) (lev D k)
  | 0 => ⟨fun j x ps e => by
    obtain ⟨g, kp, fd, b⟩ := h0 j x ps e
    refine ⟨⟨fd, ⟨fun vs H Q E h => h.1, fun A outer s H args us vs Q E hr he hb hv hs => ?_⟩, b⟩, g, kp⟩
    obtain ⟨_, _, _, _, _, _, z⟩ := hs
    exact z.elim, fun j c m ps e => by
    obtain ⟨me, fd, b⟩ := m0 j c m ps e
    refine ⟨⟨fd, ⟨fun vs H Q E h => h.1, fun A outer s H args us vs Q E hr he hb hv hs => ?_⟩, b⟩, me⟩
    obtain ⟨_, _, _, _, _, _, z⟩ := hs
    exact z.elim⟩
  | k + 1 => step (2 * k) _ (levels2 h0 m0 step k).1 (levels2 h0 m0 step k).2
section
variable {X : Cx} {W : WX}
theorem ge_extend {o e : Expr} {dx de : Den} {apos cpos : Pos} (ho : GE X W o dx) (he : GE X W e de) (hbase : attributeBase o "extend" X.env (eval o X.env) = eval o X.env := by rfl)
    (hfew : ((backTo cpos (starEach [e] X.env)).all (fun x => !x.1) && (backToKw cpos (keywordEach [] X.env)).all (fun x => x.1.isSome)
      && decide (([e] : List Expr).length + ([] : List Keyword).length + (if ([] : List Keyword).isEmpty then 0 else 1) < 30)) = true := by rfl)
    (hline : (apos.endLine == cpos.line) = true := by rfl) (hs : starEach [e] X.env = (false, eval e X.env) :: starEach [] X.env := by rfl) (hplain : (backTo cpos (starEach [] X.env)).any (·.1) = false := by rfl) :
    GE X W (.Call (.Attribute o "extend" apos) [e] [] cpos) (dMeth1 isLst (fun x v h => if (lstOf h v).isSome then vExtend x v h else .fail) dx de) := ge_meth1 m1_extend_l PySem.F.plainAttrs_list PySem.F.slot_list_extend PySem.F.type_list_extend ho he hbase hfew hline hs hplain
end
end GH
set_option Elab.async false
set_option linter.all false
set_option maxRecDepth 100000
set_option maxHeartbeats 4000000
set_option autoImplicit false
/-! exceptions with one field of their own: raise C(e), except C as x: return x.f; xs.index(n). -/
namespace GH
open PySem PySem.Spec PyProof.Rows L2
variable [TheWorld]
/-! the class -/
def oexB (K : PySem.W.Frag) (C : Addr) : Bool := (match K.lookup C with
  | some ⟨.type "type", _, .cls cd, sl⟩ => (match cd.mro, sl.toList with
    | .ref D :: bm, [_, _, _, _, some (.builtin n), _] => D == C && n == "ValueError.__new__" && !cd.hasDel && cd.hasDict && PySem.HandSPX.refsVE bm
    | _, _ => false)
  | _ => false) && decide (PySem.W.findIn K (.ref C) "__setattr__" = some (some (.builtin "object.__setattr__"))) && decide (PySem.W.subIn K (.ref C) (.type "BaseException") = some true) && decide (PySem.W.typeIn K (.ref C) = some (.type "type")) && PySem.W.keepIn K (.ref C)
theorem oexB_ok {K : PySem.W.Frag} {C : Addr} (h : oexB K C = true) : OexC K C := by
  unfold oexB at h
  simp only [Bool.and_eq_true, decide_eq_true_eq] at h
  obtain ⟨⟨⟨⟨h1, h2⟩, h3⟩, h4⟩, h5⟩ := h
  refine ⟨?_, h2, h3, h4, h5⟩
  split at h1
  · rename_i dd cd sl ho
    split at h1
    · rename_i D bm k0 k1 k2 k3 n k5 hm hs
      simp only [Bool.and_eq_true, beq_iff_eq, Bool.not_eq_true'] at h1
      obtain ⟨⟨⟨⟨rfl, rfl⟩, hdel⟩, hdct⟩, ht⟩ := h1
      obtain ⟨nm, bs, mro, ns, qn, hd, sn, sub, ab, col, del⟩ := cd
      dsimp only at hm hdel hdct
      subst hm hdel hdct
      obtain ⟨l⟩ := sl
      simp only at hs
      subst hs
      exact ⟨nm, qn, ns, bs, bm, sn, sub, ab, col, dd, k0, k1, k2, k3, k5, ho, ht⟩
    · cases h1
  · cases h1
/-- what the maker keeps: the field stands -/
def spI (C : Addr) (f : Str) : Sp := fun vs H Q _ => ∃ (a : Addr) (v : V), vs = [.ref a, v] ∧ H a = some (exo a C none) ∧ ∀ dx, H dx = none → dx ≠ a → Q .non (upd (upd H dx (exd dx [(f, v)])) a (exo a C (some dx)))
def tInit (K : PySem.W.Frag) (f : Str) : TS := tOst K f (tVar 0) (tVar 1)
theorem init_pure {K : PySem.W.Frag} {C : Addr} {f : Str} {N : List Str} (T : OexC K C) (hno : PySem.W.findIn K (.ref C) f = some none) (hN : N.length = 2) {vs : List V} {H : Hp} {Q : VK} {E : XK} (h : spI C f vs H Q E) : tInit K f { nx := fun _ H' => Q .non H', rt := Q } (L2.start N vs) H := by
  obtain ⟨a, v, rfl, e, q⟩ := h
  match N, hN with
  | [_, _], _ => exact ⟨v, rfl, .ref a, rfl, a, C, rfl, T, hno, .inl ⟨e, fun dx n ne => q dx n ne⟩⟩
/-- the way of C(e): what the heap is then -/
theorem made_heap {H : Hp} {a d C : Addr} {f : Str} {v : V} (ha : H a = none) (hd : d ≠ a) : upd (del (upd (upd (upd H a (exo a C none)) d (exd d [(f, v)])) a (exo a C (some d))) a) d (.xd [(f, v)]) = upd H d (.xd [(f, v)]) := by
  funext b
  by_cases hb : b = d
  · subst hb
    rw [upd_same, upd_same]
  · rw [upd_ne hb, upd_ne hb]
    by_cases ha' : b = a
    · subst ha'
      rw [del_same, ha]
    · rw [del_ne ha', upd_ne ha', upd_ne hb, upd_ne ha']
section
variable {X : Cx} {W : WX}
/-- raise C(e): C keeps e as f -/
def sRaiseF (c f : List Nat) (de : Den) : Stm := fun l h => (de l h).to l fun v h1 => .exc ⟨c, [(f, v)]⟩ l h1
theorem gs_raiseF (c f : List Nat) {x : Str} {e : Expr} {de : Den} {fI : Addr} {fd : FuncData} {ps : List Str} {p pos pos2 : Pos} (hc : X.calm = true) (tk : Takes X W) (T : OexC X.K (clsA X.K c)) (iC : PySem.W.findIn X.K (.ref (clsA X.K c)) "__init__" = some (some (.ref fI))) (tI : PySem.W.typeIn X.K (.ref fI) = some (.type "function"))
    (F1 : FnOk X.prog X.w X.K X.mg X.base CX0 1 fI fd ps (spI (clsA X.K c) (sOf f))) (hb : Binds X.K fd ps []) (hr : Room 2 X.A) (hm : X.mg x = some (.ref (clsA X.K c))) (he : GE X W e de) (hg : Gl X x := by rfl) (hdb : (x == ("__debug__" : Str)) = false := by decide +kernel)
    (h1 : starEach (e :: []) X.env = (false, eval e X.env) :: starEach [] X.env := by rfl) (h2 : (backTo pos (starEach [] X.env)).any (·.1) = false := by rfl) :
    GS X W (.Raise (some (.Call (.Name x p) [e] [] pos)) none pos2) (sRaiseF c f de) := by
  refine PS.imp (ps_raise hc tk (pmk_oex T iC tI F1 hr hb .nil (fun _ _ _ _ _ _ _ z => z.elim) hg hm (pa_cons he pa_nil h1) hdb h1 h2)) fun D σ H ⟨g, l, h, S, R, A⟩ => ?_
  refine tG_to S R A fun v h1 g1 H1 y E S1 R1 r1 A1 => ?_
  refine ⟨by simp, fun a na => ⟨a, y, rfl, upd_same, fun dx nd ne => ⟨rfl, dx, [(sOf f, y)], upd_same, by rw [upd_ne ne, upd_same], ?_, ?_⟩⟩⟩
  · rw [upd_ne ne] at nd
    exact nd
  · rw [upd_ne ne] at nd
    rw [made_heap na ne]
    obtain ⟨Ea, Ra⟩ := R1.grow (o := .xd [(sOf f, y)]) nd
    refine A1 g1 _ σ _ (some dx) Ea Ra (S1.ext R1 Ea) ⟨rfl, dx, [(sOf f, y)], rfl, ?_, upd_same, FR.cons (p := (f, v)) (r1.ext R1 Ea) ⟨rfl, VRs.nil⟩⟩
    rintro (hz | hz)
    · rcases R1.kind hz with ⟨_, e⟩ | ⟨_, e⟩ | ⟨_, _, _, e⟩ | ⟨_, e⟩ | ⟨_, e⟩ <;> rw [nd] at e <;> cases e
    · obtain ⟨_, e, _⟩ := R1.al _ hz
      rw [nd] at e; cases e
/-- try: body; except C as x: return x.f -/
def sTryFld (i : Nat) (c f : List Nat) (body : Stm) : Stm := fun l h => match body l h with
  | .exc e l1 h1 => if e.c = c ∧ i < l1.length then (match fget f e.fs with
    | some v => .rt v h1
    | none => .fail) else .fail
  | r => r
theorem gs_tryFld (c f : List Nat) {i : Nat} {x nm xf : Str} {body : List Stmt} {np np2 pos pos' pos4 rp : Pos} {db : Stm}
    (hs : X.stack = X.env :: X.outer) (hf : X.env.frame = some X.env.locals) (hN : X.N.Nodup) (hi : X.N[i]? = some nm) (hln : X.env.kindOf nm = some .local)
    (hc : Names X x (.ref (clsA X.K c))) (tk : Takes X W) (hm : PySem.W.exmOne X.K (.ref (clsA X.K c)) (.ref (clsA X.K c)) = some true) (T : XfC X.K (clsA X.K c)) (hno : PySem.W.findIn X.K (.ref (clsA X.K c)) (sOf f) = some none)
    (hb : ∀ (W' : WX) (pn : List (Addr × Obj)) (xe : Value → Shared → Prop), Takes (X.tr pn xe) W' → PassesOwn (model X.prog X.w) X.A X.env xe → GSs (X.tr pn xe) W' body db)
    (hdn : (nm == ("__debug__" : Str)) = false := by decide +kernel) (hdc : (nm == ("__classdict__" : Str)) = false := by decide +kernel)
    (hba : attributeBase (.Name nm np2) (sOf f) X.env (eval (.Name nm np2) X.env) = eval (.Name nm np2) X.env := by rfl) (hxf : xf = sOf f := by rfl) :
    GS X W (.Try body [.ExceptHandler (some (.Name x np)) (some nm) [.Return (some (.Attribute (.Name nm np2) xf rp)) pos4] pos'] [] [] pos) (sTryFld i c f db) := by
  subst hxf
  refine PS.imp (ps_try_as (i := i) (tb := fun W' => tS X.K W' db)
    (ts := fun a cls d => fun D σ H => σ[i]? = some (some (.ref a)) ∧ cls = .ref (clsA X.K c) ∧ ∃ (dd : Addr) (fs : List (Str × V)) (v : V), d = some dd ∧ H dd = some (.xd fs) ∧ fs.lookup (sOf f) = some v ∧ D.rt v H) hs hf hN hi hln hc tk hb (fun a oe cls d pn hz hfd => ?_)) fun D σ H ⟨g, l, h, S, R, AA⟩ => ?_
  · refine ⟨fun pins s σ H D I ⟨e1, e2, dd, fs, v, e3, e4, e5, q⟩ => ?_⟩
    have hv : PE (X.suite a ((a, oe) :: pn)) (.Name nm np2) (tVar i) := pe_var hi (.inl hln) hdn hdc
    refine (pss_one (ps_ret (pe_xf (pos := rp) T hno hz hfd hv hba))).run pins s σ H D I ?_
    exact ⟨_, e1, rfl, e2, dd, fs, v, e3, e4, e5, q⟩
  · refine ⟨g, l, h, S, R, ?_⟩
    unfold sTryFld at AA
    cases e : db l h with
    | nx l1 h1 => rw [e] at AA; exact AA
    | bk l1 h1 => rw [e] at AA; exact AA
    | ct l1 h1 => rw [e] at AA; exact AA
    | rt l1 h1 => rw [e] at AA; exact AA
    | fail => rw [e] at AA; exact AA
    | exc x1 l1 h1 =>
      rw [e] at AA
      simp only at AA
      split at AA
      · rename_i hcc
        split at AA
        · rename_i v hv
          intro g' H' σ' cls d E R' S' re
          obtain ⟨k1, k2⟩ := re
          rw [hcc.1] at k1
          have hlen : i < σ'.length := by rw [← S'.len]; exact hcc.2
          cases hfs : x1.fs with
          | nil => rw [hfs] at hv; cases hv
          | cons p r =>
            rw [hfs] at k2 hv
            obtain ⟨dd, gs, k3, k4, k5, k6⟩ := k2
            obtain ⟨y, e1, r1⟩ := (FR.get k6).1 v hv
            subst k1
            refine ⟨true, hm, fun _ a na => ⟨by rw [List.getElem?_set_self hlen], rfl, dd, gs, y, k3, k5, e1, AA g' H' _ E R' r1⟩, fun z => by cases z⟩
        · exact AA.elim
      · exact AA.elim
/-- xs.index(n), whole numbers -/
def intsOf' : List Val → Option (List Int)
  | [] => some []
  | .int i :: r => (intsOf' r).map (i :: ·)
  | _ => none
def vIndex (x u : Val) (h : Hv) : Res Val := match lstOf h x, u with
  | some l, .int n => (match intsOf' l with
    | some ns => (match ns.idxOf? n with
      | some j => .ok (.int j) h
      | none => .fail)
    | none => .fail)
  | _, _ => .fail
theorem ints_rel {K : PySem.W.Frag} {g : Gh} {H : Hp} : ∀ {l : List Val} {ns : List Int} {xs : List V}, intsOf' l = some ns → VRs K g H l xs → xs = ns.map V.int
  | [], ns, xs, e, r => by
    cases e
    exact r
  | v :: l, ns, xs, e, r => by
    simp only [VRs] at r
    obtain ⟨x, xs', rfl, r1, r2⟩ := r
    cases v with
    | int i =>
      simp only [intsOf', Option.map_eq_some_iff] at e
      obtain ⟨ns', e', rfl⟩ := e
      simp only [VR] at r1
      rw [r1, ints_rel e' r2]
      rfl
    | _ => cases e
theorem m1_index : M1R X "list" "list.index" isLst vIndex := ⟨fun g H h v x R r e => lst_ty R r e, _, mt_index, fun W g H h σ v u x y Q R rv ru A => by
  unfold vIndex at A
  split at A
  · rename_i l n hl
    split at A
    · rename_i ns hns
      split at A
      · rename_i j hj
        obtain ⟨a, xs, rfl, s, rs⟩ := lstOf_ok R rv hl
        simp only [VR] at ru
        subst ru
        have ex := ints_rel hns rs
        subst ex
        obtain ⟨hlt, h1, h2⟩ := List.idxOf?_eq_some_iff.mp hj
        refine ⟨a, _, _, j, .int n, rfl, rfl, SqL.of s, rfl, ?_, ?_, by simp [eqV], ?_, A g H _ Ext.refl R (by simp only [VR])⟩
        · simp [flatV]
        · rw [List.getElem?_map, List.getElem?_eq_getElem hlt]
          simp [h1]
        · intro m z' hm hz
          rw [List.getElem?_map] at hz
          obtain ⟨w, hw, rfl⟩ := Option.map_eq_some_iff.mp hz
          have := h2 m hm
          obtain ⟨hml, hw⟩ := List.getElem?_eq_some_iff.mp hw
          rw [hw] at this
          simpa [eqV] using this
      · exact A.elim
    · exact A.elim
  · exact A.elim⟩
theorem ge_index {o e : Expr} {dx de : Den} {apos cpos : Pos} (ho : GE X W o dx) (he : GE X W e de) (hbase : attributeBase o "index" X.env (eval o X.env) = eval o X.env := by rfl)
    (hfew : ((backTo cpos (starEach [e] X.env)).all (fun x => !x.1) && (backToKw cpos (keywordEach [] X.env)).all (fun x => x.1.isSome)
      && decide (([e] : List Expr).length + ([] : List Keyword).length + (if ([] : List Keyword).isEmpty then 0 else 1) < 30)) = true := by rfl)
    (hline : (apos.endLine == cpos.line) = true := by rfl) (hs : starEach [e] X.env = (false, eval e X.env) :: starEach [] X.env := by rfl) (hplain : (backTo cpos (starEach [] X.env)).any (·.1) = false := by rfl) :
    GE X W (.Call (.Attribute o "index" apos) [e] [] cpos) (dMeth1 isLst vIndex dx de) := ge_meth1 m1_index PySem.F.plainAttrs_list PySem.F.slot_list_index PySem.F.type_list_index ho he hbase hfew hline hs hplain
/-- the maker's promise and its names, as one -/
def InitOk (P : Program) (w : World) (K : PySem.W.Frag) (mg : Str → Option Value) (base : Heap) (C fI : Addr) (ps : List Str) (f : Str) : Prop := ∃ fd, FnOk P w K mg base CX0 1 fI fd ps (spI C f) ∧ Binds K fd ps []
theorem gs_raiseI (c f : List Nat) {x fs : Str} {e : Expr} {de : Den} {fI : Addr} {ps : List Str} {p pos pos2 : Pos} (hc : X.calm = true) (tk : Takes X W) (T : OexC X.K (clsA X.K c)) (me : Meth X.K (clsA X.K c) "__init__" fI)
    (F1 : InitOk X.prog X.w X.K X.mg X.base (clsA X.K c) fI ps fs) (hr : Room 2 X.A) (hm : X.mg x = some (.ref (clsA X.K c))) (he : GE X W e de) (hfs : fs = sOf f := by decide +kernel) (hg : Gl X x := by rfl) (hdb : (x == ("__debug__" : Str)) = false := by decide +kernel)
    (h1 : starEach (e :: []) X.env = (false, eval e X.env) :: starEach [] X.env := by rfl) (h2 : (backTo pos (starEach [] X.env)).any (·.1) = false := by rfl) :
    GS X W (.Raise (some (.Call (.Name x p) [e] [] pos)) none pos2) (sRaiseF c f de) := by
  subst hfs
  obtain ⟨fd, F1, hb⟩ := F1
  exact gs_raiseF c f hc tk T me.at_ (beq_iff_eq.mp me.fn) F1 hb hr hm he hg hdb h1 h2
end
/-- levels that begin above 0 -/
theorem levels3 {P : Program} {w : World} {K : PySem.W.Frag} {mg : Str → Option Value} {base : Heap} {sig : List (Str × List Str)} {msig : List (Tx × Tx × List Str)} {n0 : Nat} {D : Gam → Gam}
    (h0 : ∀ (j : Nat) (x : Str) (ps : List Str), sig[j]? = some (x, ps) → mg x = some (.ref (He.ga K x)) ∧ PySem.W.keepIn K (.ref (He.ga K x)) = true ∧ ∃ fd, Binds K fd ps [])
    (m0 : ∀ (j : Nat) (c m : Tx) (ps : List Str), msig[j]? = some (c, m, ps) → Meth K (clsA K c) (sOf m) (He.ma K (clsA K c) (sOf m)) ∧ ∃ fd, Binds K fd ps [])
    (step : ∀ k Γ, 1 ≤ k → AllK P w K mg base sig k Γ → AllM P w K mg base msig n0 k Γ → (∀ (j : Nat) (x : Str) (ps : List Str), sig[j]? = some (x, ps) → FnK P w K mg base (k + 2) (D Γ j) x ps) ∧ ∀ (j : Nat) (c m : Tx) (ps : List Str), msig[j]? = some (c, m, ps) → FnM P w K mg base (k + 2) (D Γ (n0 + j)) c m ps) :
    ∀ k, AllK P w K mg base sig (2 * k + 1) (lev D k) ∧ AllM P w K mg base msig n0 (2 * k + 1) (lev D k)
  | 0 => ⟨fun j x ps e => by
    obtain ⟨g, kp, fd, b⟩ := h0 j x ps e
    refine ⟨⟨fd, ⟨fun vs H Q E h => h.1, fun A outer s H args us vs Q E hr he hb hv hs => ?_⟩, b⟩, g, kp⟩
    obtain ⟨_, _, _, _, _, _, z⟩ := hs
    exact z.elim, fun j c m ps e => by
    obtain ⟨me, fd, b⟩ := m0 j c m ps e
    refine ⟨⟨fd, ⟨fun vs H Q E h => h.1, fun A outer s H args us vs Q E hr he hb hv hs => ?_⟩, b⟩, me⟩
    obtain ⟨_, _, _, _, _, _, z⟩ := hs
    exact z.elim⟩
  | k + 1 => step (2 * k + 1) _ (by omega) (levels3 h0 m0 step k).1 (levels3 h0 m0 step k).2
end GH
set_option Elab.async false
set_option linter.all false
set_option maxRecDepth 100000
set_option maxHeartbeats 4000000
set_option autoImplicit false
/-! str of a text, str of a whole number. -/
namespace GH
open PySem PySem.Spec PyProof.Rows L2
variable [TheWorld]
variable {X : Cx}
def vStr (v : Val) (h : Hv) : Res Val := match v with
  | .str s => .ok (.str s) h
  | v => vStrI v h
theorem call_str2 : CallR X (.type "str") (fun xs H Q => (∃ a, xs = [.str a] ∧ Q (.str a) H) ∨ ∃ i : Int, xs = [.int i] ∧ i.natAbs.log2 < 1920 ∧ Q (.str (toString i)) H) := by
  intro pins s σ H xs us Q I r h
  rcases h with h | h
  · exact SkE.call_str_str pins s σ H xs us Q I r h
  · exact call_str_int pins s σ H xs us Q I r h
theorem c1_strS : C1 X (.type "str") vStr := ⟨_, call_str2, fun W g H h σ v x Q R r A => by
  unfold vStr at A
  split at A
  · simp only [VR] at r
    subst r
    exact .inl ⟨_, rfl, A g H _ Ext.refl R (by simp only [VR])⟩
  · unfold vStrI at A
    split at A
    · split at A
      · rename_i hz
        simp only [VR] at r
        subst r
        refine .inr ⟨_, rfl, hz, A g H _ Ext.refl R ?_⟩
        simp only [VR]
        exact congrArg V.str (by generalize Str.ofString _ = s; cases s; rfl)
      · exact A.elim
    · exact A.elim⟩
end GH
set_option Elab.async false
set_option linter.all false
set_option maxRecDepth 100000
set_option maxHeartbeats 1000000
set_option autoImplicit false
/-! a lambda without parameters that is handed to a def which calls it once and catches one class. -/
namespace GH
open PySem PySem.Spec PyProof.Rows L2 LamX
variable [TheWorld]
/-- what the def makes of the lambda: f of its value, ret where it raises -/
def TTg (K : PySem.W.Frag) (CS : Addr) (f : V → V) (ret : V) : (XK → Hp → VK → Prop) → Hp → VK → Prop := fun tl H Q =>
  tl (fun cls _ H' => PySem.W.exmOne K cls (.ref CS) = some true ∧ Q ret H') H fun v H' => Q (f v) H'
section
variable {X : Cx} {Ng : List Str} {x a e q : Str} {sg : Scope} {g CS : Addr} {cdg : Value} {j j2 : Nat} {p1 p2 p3 p4 p5 p6 p7 p8 p9 pa : Pos}
/-- try: return a() / except e: return None -/
theorem told_non (hge : sg.names.lookup e = some .globalImplicit) (hme : X.mg e = some (.ref CS)) (h0 : ∀ f : Addr, (L2.start Ng [V.ref f])[0]? = some (some (V.ref f))) (hde : (e == ("__debug__" : Str)) = false := by decide +kernel) :
    GivesTo X Ng x sg g cdg [.Try [.Return (some (.Call (.Name a p1) [] [] p2)) p3] [.ExceptHandler (some (.Name e p4)) none [.Return (some (.Constant .none j p5)) p6] p7] [] [] p8] a q (TTg X.K CS (fun v => v) .non) := by
  intro f c' s H Q tl act hc h
  have gl : Gl (cxOf C8.CX0 X.prog X.w X.K X.mg X.base Ng x sg g cdg X.A X.stack s H C8.E0).nox e := hge
  have inner : ∀ (W : WX) (pn : List (Addr × Obj)) (xe : Value → Shared → Prop), Takes ((cxOf C8.CX0 X.prog X.w X.K X.mg X.base Ng x sg g cdg X.A X.stack s H C8.E0).tr pn xe) W →
      PSs ((cxOf C8.CX0 X.prog X.w X.K X.mg X.base Ng x sg g cdg X.A X.stack s H C8.E0).tr pn xe) [.Return (some (.Call (.Name a p1) [] [] p2)) p3]
        (fun D σ H => ∃ Eh : XK, (∀ cls d σ' H', Eh cls d H' → W cls d σ' H') ∧ σ[0]? = some (some (.ref f)) ∧ H c' = some (CodeO c' q) ∧ tl Eh H D.rt) := fun W pn xe tk =>
    ⟨fun pins s' σ H' D I ⟨Eh, hW, h1, h2, h3⟩ => (pss_one (ps_ret (pos := p3) (act W pn xe Eh p1 p2 tk hW))).run pins s' σ H' D I ⟨h1, h2, h3⟩⟩
  refine ⟨_, pss_one (ps_try_only (X := (cxOf C8.CX0 X.prog X.w X.K X.mg X.base Ng x sg g cdg X.A X.stack s H C8.E0).nox) (c := .ref CS) rfl rfl ⟨gl, hde, .inl hme⟩ LamX.takes0 (fun W pn xe tk _ => inner W pn xe tk) fun a oe cls d pn _ _ => pss_one (ps_ret pe_non)), ?_⟩
  exact ⟨_, fun cls d σ' H' z => ⟨true, z.1, fun _ a _ => z.2, fun hb => nomatch hb⟩, h0 f, hc, h⟩
/-- try: a() / except e: return True / return False -/
theorem told_ref (hge : sg.names.lookup e = some .globalImplicit) (hme : X.mg e = some (.ref CS)) (h0 : ∀ f : Addr, (L2.start Ng [V.ref f])[0]? = some (some (V.ref f))) (hde : (e == ("__debug__" : Str)) = false := by decide +kernel)
    (hsw : ∀ (env : Env), swapsWith (.Call (.Name a p1) [] [] p2) none p3.line env = pure false := by intro env; rfl) :
    GivesTo X Ng x sg g cdg [.Try [.Expr (.Call (.Name a p1) [] [] p2) p3] [.ExceptHandler (some (.Name e p4)) none [.Return (some (.Constant (.bool true) j p5)) p6] p7] [] [] p8, .Return (some (.Constant (.bool false) j2 p9)) pa] a q (TTg X.K CS (fun _ => .bl false) (.bl true)) := by
  intro f c' s H Q tl act hc h
  have gl : Gl (cxOf C8.CX0 X.prog X.w X.K X.mg X.base Ng x sg g cdg X.A X.stack s H C8.E0).nox e := hge
  have inner : ∀ (W : WX) (pn : List (Addr × Obj)) (xe : Value → Shared → Prop), Takes ((cxOf C8.CX0 X.prog X.w X.K X.mg X.base Ng x sg g cdg X.A X.stack s H C8.E0).tr pn xe) W →
      PSs ((cxOf C8.CX0 X.prog X.w X.K X.mg X.base Ng x sg g cdg X.A X.stack s H C8.E0).tr pn xe) [.Expr (.Call (.Name a p1) [] [] p2) p3]
        (fun D σ H => ∃ Eh : XK, (∀ cls d σ' H', Eh cls d H' → W cls d σ' H') ∧ σ[0]? = some (some (.ref f)) ∧ H c' = some (CodeO c' q) ∧ tl Eh H fun _ H' => D.nx σ H') := fun W pn xe tk =>
    ⟨fun pins s' σ H' D I ⟨Eh, hW, h1, h2, h3⟩ => (pss_one (ps_expr (pos := p3) (act W pn xe Eh p1 p2 tk hW) (hsw _))).run pins s' σ H' D I ⟨h1, h2, h3⟩⟩
  refine ⟨_, pss_cons (ps_try_only (X := (cxOf C8.CX0 X.prog X.w X.K X.mg X.base Ng x sg g cdg X.A X.stack s H C8.E0).nox) (c := .ref CS) rfl rfl ⟨gl, hde, .inl hme⟩ LamX.takes0 (fun W pn xe tk _ => inner W pn xe tk) fun a oe cls d pn _ _ => pss_one (ps_ret pe_bl)) (pss_one (ps_ret pe_bl)), ?_⟩
  exact ⟨_, fun cls d σ' H' z => ⟨true, z.1, fun _ a _ => z.2, fun hb => nomatch hb⟩, h0 f, hc, h⟩
end
/-! ### the tables of ours -/
/-- the tables of the small heap -/
def tabsOf : Hv → List Addr → List (Addr × Str)
  | .tbl q :: h, a :: m => (a, qualL q) :: tabsOf h m
  | _ :: h, _ :: m => tabsOf h m
  | _, _ => []
theorem tabsOf_mem : ∀ {h : Hv} {m : List Addr} {p : Addr × Str}, p ∈ tabsOf h m ↔ ∃ (i : Nat) (q : List Nat), h[i]? = some (Ob.tbl q) ∧ m[i]? = some p.1 ∧ p.2 = qualL q
  | [], m, p => by simp [tabsOf]
  | o :: h, [], p => by cases o <;> simp [tabsOf]
  | o :: h, a :: m, p => by
    have ih := tabsOf_mem (h := h) (m := m) (p := p)
    have step : (∃ (i : Nat) (q : List Nat), (o :: h)[i]? = some (.tbl q) ∧ (a :: m)[i]? = some p.1 ∧ p.2 = qualL q) ↔ (∃ q, o = .tbl q ∧ a = p.1 ∧ p.2 = qualL q) ∨ ∃ (i : Nat) (q : List Nat), h[i]? = some (Ob.tbl q) ∧ m[i]? = some p.1 ∧ p.2 = qualL q := by
      constructor
      · rintro ⟨i, q, e1, e2, e3⟩
        cases i with
        | zero => exact .inl ⟨q, by simpa using e1, by simpa using e2, e3⟩
        | succ i => exact .inr ⟨i, q, by simpa using e1, by simpa using e2, e3⟩
      · rintro (⟨q, e1, e2, e3⟩ | ⟨i, q, e1, e2, e3⟩)
        · exact ⟨0, q, by simp [e1], by simp [e2], e3⟩
        · exact ⟨i + 1, q, by simpa using e1, by simpa using e2, e3⟩
    rw [step, ← ih]
    cases o with
    | tbl q =>
      simp only [tabsOf, List.mem_cons]
      constructor
      · rintro (z | z)
        · exact .inl ⟨q, rfl, by rw [z], by rw [z]⟩
        · exact .inr z
      · rintro (⟨q', e1, e2, e3⟩ | z)
        · cases e1
          exact .inl (Prod.ext e2.symm e3)
        · exact .inr z
    | lst l => simp [tabsOf]
    | dic l => simp [tabsOf]
    | ins c f => simp [tabsOf]
    | dn l => simp [tabsOf]
section
variable {K : PySem.W.Frag} {g : Gh} {H H1 : Hp} {h : Hv}
theorem tabs_of (R : HR K g H h) : Tabs (tabsOf h g.m) H := fun p hp => by
  obtain ⟨i, q, e1, e2, e3⟩ := tabsOf_mem.mp hp
  obtain ⟨_, ps, t0, t1, t2⟩ := R.obj i _ _ e1 e2
  rw [e3]
  exact ⟨ps, t0, t1, fun pos cv z => by
    obtain ⟨c, a, b, _⟩ := t2 pos cv z
    exact ⟨c, a, b⟩⟩
theorem tabs_one (R : HR K g H h) {i : Nat} {q : List Nat} {P : Addr} (e1 : h[i]? = some (.tbl q)) (e2 : g.m[i]? = some P) : (P, qualL q) ∈ tabsOf h g.m ∧ ∀ p ∈ tabsOf h g.m, p.1 = P → p.2 = qualL q := by
  refine ⟨tabsOf_mem.mpr ⟨i, q, e1, e2, rfl⟩, fun p hp e => ?_⟩
  obtain ⟨j, q', a1, a2, a3⟩ := tabsOf_mem.mp hp
  obtain ⟨l1, p1⟩ := List.getElem?_eq_some_iff.mp e2
  obtain ⟨l2, p2⟩ := List.getElem?_eq_some_iff.mp a2
  have ij : i = j := (List.getElem_inj R.nd).mp (p1.trans (e.symm.trans p2.symm))
  subst ij
  rw [e1] at a1
  cases a1
  exact a3
theorem codeO_dn {P : Program} {w : World} {s : Heap} (ok : HOk P w H s) {c : Addr} {q : Str} {xs : NX} (e : H c = some (CodeO c q)) : CodeO c q ≠ DN c xs := fun z => by
  have h1 := (ok c _ e).1
  rw [z] at e
  have h2 := (ok c _ e).1
  obtain ⟨oc, vs, t, a, b, _⟩ := h1
  obtain ⟨es, ep, a2, _, b2, _⟩ := h2
  rw [a] at a2
  cases a2
  rw [b] at b2
  cases b2
/-- the lambda is made: all but the tables stays -/
theorem tabs_ext (R : HR K g H h) (nc : ∀ c q xs, H c = some (CodeO c q) → CodeO c q ≠ DN c xs) (eN : ExtN H H1) (T : Tabs (tabsOf h g.m) H1) : Ext g H g H1 ∧ HR K g H1 h := by
  have E : Ext g H g H1 := ⟨⟨[], by simp, by simp⟩, rfl, fun b o e nt _ => eN b o e nt, fun b o e nt => ⟨o, eN b o e nt, nt⟩⟩
  have no : ∀ c q, H1 c = some (CodeO c q) → ¬ g.own c := fun c q e ho => by
    rcases ho with ho | ho
    · obtain ⟨i, hi, ei⟩ := List.getElem_of_mem ho
      have hi' : i < h.length := by rw [← R.len]; exact hi
      have z := R.obj i h[i] c (by simp [hi']) (by rw [← ei]; simp [hi])
      cases ho : h[i] with
      | lst l =>
        rw [ho] at z
        obtain ⟨xs, z, _⟩ := z
        have := eN c _ z (by intro ps z; cases z)
        rw [e] at this
        unfold CodeO at this
        cases this
      | dic l =>
        rw [ho] at z
        obtain ⟨xs, z, _⟩ := z
        have := eN c _ z (by intro ps z; cases z)
        rw [e] at this
        unfold CodeO at this
        cases this
      | ins l f =>
        rw [ho] at z
        obtain ⟨_, xs, z, _⟩ := z
        have := eN c _ z (by intro ps z; cases z)
        rw [e] at this
        unfold CodeO at this
        cases this
      | dn l =>
        rw [ho] at z
        obtain ⟨xs, ys, z, _⟩ := z
        have := eN c _ z (by intro ps z; cases z)
        rw [e] at this
        have e3 : CodeO c q = DN c xs := Option.some.inj this
        exact nc c q xs (by rw [e3]; exact z) e3
      | tbl t =>
        have m : (c, qualL t) ∈ tabsOf h g.m := tabsOf_mem.mpr ⟨i, t, by simp [hi', ho], by rw [← ei]; simp [hi], rfl⟩
        obtain ⟨ps, z, _⟩ := T _ m
        rw [e] at z
        unfold CodeO at z
        cases z
    · obtain ⟨o, z, mu⟩ := R.al c ho
      have nt : ∀ ps, o ≠ .tbl ps := by
        rintro ps rfl
        exact mu
      have := eN c _ z nt
      rw [e] at this
      have e3 : CodeO c q = o := Option.some.inj this
      subst e3
      obtain ⟨xs, e3⟩ := mu
      exact nc c q xs z e3
  refine ⟨E, R.len, R.nd, R.dis, fun a ha => ?_, fun i o a e1 e2 => ?_⟩
  · obtain ⟨o, z, mu⟩ := R.al a ha
    exact ⟨o, eN a o z (by rintro ps rfl; exact mu), mu⟩
  · have q := R.obj i o a e1 e2
    cases o with
    | lst l => obtain ⟨xs, e, r⟩ := q; exact ⟨xs, eN _ _ e (by intro ps z; cases z), r.ext R E⟩
    | dic l => obtain ⟨xs, e, r⟩ := q; exact ⟨xs, eN _ _ e (by intro ps z; cases z), r.1, r.2.ext R E⟩
    | ins c f => obtain ⟨dx, gs, e, r⟩ := q; exact ⟨dx, gs, eN _ _ e (by intro ps z; cases z), r.1, r.2.ext R E⟩
    | dn l => obtain ⟨xs, ys, e, p, r1, r2⟩ := q; exact ⟨xs, ys, eN _ _ e (by intro ps z; cases z), p, r1.ext R E, r2.ext R E⟩
    | tbl t =>
      obtain ⟨ps, z, t1, t2⟩ := T (a, qualL t) (tabsOf_mem.mpr ⟨i, t, e1, e2, rfl⟩)
      exact ⟨q.1, ps, z, t1, fun pos cv y => by
        obtain ⟨c, a1, a2⟩ := t2 pos cv y
        exact ⟨c, a1, a2, no _ _ a2⟩⟩
end
/-- x(lambda: d) where x catches the classes of tb: fv of d's value, ret where it raises -/
def dLam (nm : List Nat) (i : Nat) (tb : List (List Nat × Bool)) (fv : Val → Val) (ret : Val) (d : Den) : Den := fun l h => match h[i]? with
  | some (.tbl q) => if q = nm then (match d l h with
    | .ok v h1 => .ok (fv v) h1
    | .exc e h1 => if tb.lookup e.c = some true then .ok ret h1 else .fail
    | .fail => .fail) else .fail
  | _ => .fail
theorem ge_lam {X : Cx} {W : WX} (nm : List Nat) (i : Nat) (tb : List (List Nat × Bool)) (fv : Val → Val) (ret : Val) {fV : V → V} {rV : V} {x a : Str} {g CS : Addr} {k : Nat} {pg : Arguments} {bg : List Stmt} {sg : Scope} {fd : FuncData} {Ng : List Str}
    {params : Arguments} {body : Expr} {scope : Scope} {d : Den} {p lpos pos : Pos} (hfv : ∀ g H v x, VR X.K g H v x → VR X.K g H (fv v) (fV x)) (hret : ∀ g H, VR X.K g H ret rV)
    (hm : X.mg x = some (.ref g)) (U : FunD X.K x x pg bg sg [] [] g fd) (hb : Binds X.K fd [a] []) (Sg : FnScope Ng [a] sg) (hNg : Ng[0]? = some a) (hva : Vis sg a)
    (hG : ∀ cdv, GivesTo X Ng x sg g cdv bg a (X.env.qual ++ "<lambda>") (TTg X.K CS fV rV)) (ht : ∀ p ∈ tb, PySem.W.exmOne X.K (.ref (clsA X.K p.1)) (.ref CS) = some p.2)
    (hq : X.env.qual ++ "<lambda>" = qualL nm) (TB : TabB X.base X.mg (He.codeOf X.K (sOf nm, none)) (tabA X.K nm)) (hcode : X.env.code = .ref (He.codeOf X.K (sOf nm, none)))
    (hr : Room (k + 2) X.A) (L : LamS X.env.scope scope) (hdef : defaultsOf params X.env = ([], []))
    (hbind : ∀ (q : Str) (cl : List (Str × Addr)) (pm cv ctv : Value), bindArgs (PySem.W.kla_fn "<lambda>" q params body scope cl pm cv ctv) ⟨[], []⟩ = pure [])
    (hd : ∀ (A : Around) (outer : List Env) (s : Shared) (H : Hp) (E : XK) (f c' : Addr), Room k (lamCx X A outer s H E scope f c').A → (lamCx X A outer s H E scope f c').A.units + 200 < cLine → (lamCx X A outer s H E scope f c').A.units + 1 < cLine → Takes (lamCx X A outer s H E scope f c') (WD E) →
      PassesOwn (model X.prog X.w) (lamCx X A outer s H E scope f c').A (lamCx X A outer s H E scope f c').env (lamCx X A outer s H E scope f c').xe → GE (lamCx X A outer s H E scope f c') (WD E) body d)
    (hg : Gl X x := by rfl) (hdb : (x == ("__debug__" : Str)) = false := by decide +kernel) (hd1 : (a == ("__debug__" : Str)) = false := by decide +kernel) (hcd : (a == ("__classdict__" : Str)) = false := by decide +kernel) :
    GE X W (.Call (.Name x p) [.Lambda params body scope lpos] [] pos) (dLam nm i tb fv ret d) := by
  refine ⟨fun pins s σ H Q I ⟨g1, l, h, S, R, A⟩ => ?_⟩
  obtain ⟨oc, od, dV, kV, doc, pm, an, cdv, ct, osl, rfl, lk, hcg, _, _⟩ := U.ex
  unfold dLam at A
  split at A
  · rename_i q e1
    split at A
    · rename_i eq
      subst eq
      have hi : i < g1.m.length := by rw [R.len]; exact (List.getElem?_eq_some_iff.mp e1).1
      have e2 : g1.m[i]? = some g1.m[i] := by simp [hi]
      obtain ⟨eP, tG_⟩ := R.obj i _ _ e1 e2
      rw [eP] at e2
      obtain ⟨m1, m2⟩ := tabs_one R e1 e2
      have lam := pe_lamcall (X := X) (T := tabsOf h g1.m) (TT := TTg X.K CS fV rV) (t := fun E => tG X.K (WD E) (vr X.K) d) (p := p) (lpos := lpos) (pos := pos) (k := k) hg hm U.kp lk hcg hb Sg hNg hva (hG cdv) TB hcode (by rw [hq]; exact m1) (by rw [hq]; exact m2) hr L hdef hbind
        (fun A outer s H E f c' hr' => hd A outer s H E f c' hr' (by have := hr'.un; show (A.deeper _).units + 200 < cLine; omega) (by have := hr'.un; show (A.deeper _).units + 1 < cLine; omega) (takes_of rfl rfl rfl rfl) (passes_of rfl)) hdb hd1 hcd
      refine lam.run pins s σ H Q I ⟨tabs_of R, fun H1 eN T1 => ?_⟩
      obtain ⟨E1, R1⟩ := tabs_ext R (fun c q xs e => codeO_dn I.hok e) eN T1
      refine ⟨g1, l, h, S.ext R E1, R1, ?_⟩
      cases ed : d l h with
      | ok v h1 =>
        rw [ed] at A
        intro g' H' x E' R' r
        exact A g' H' _ (E1.trans E') R' (hfv _ _ _ _ r)
      | exc e h1 =>
        rw [ed] at A
        intro g' H' cls dd E' R' re
        dsimp only at A
        split at A
        · rename_i el
          have mem : (e.c, true) ∈ tb := by
            have gen : ∀ (tb : List (List Nat × Bool)), tb.lookup e.c = some true → (e.c, true) ∈ tb := by
              intro tb
              induction tb with
              | nil => intro z; cases z
              | cons y tb ih =>
                intro z
                rw [List.lookup_cons] at z
                split at z
                · rename_i q
                  have e3 : y = (e.c, true) := Prod.ext (beq_iff_eq.mp q).symm (Option.some.inj z)
                  rw [e3]
                  exact List.mem_cons_self
                · exact List.mem_cons_of_mem _ (ih z)
            exact gen tb el
          exact ⟨by rw [re.1]; exact ht _ mem, A g' H' _ (E1.trans E') R' (hret _ _)⟩
        · exact A.elim
      | fail => rw [ed] at A; exact A.elim
    · exact A.elim
  · exact A.elim
end GH
set_option Elab.async false
set_option linter.all false
set_option maxRecDepth 100000
set_option maxHeartbeats 1000000
set_option autoImplicit false
/-! a def whose code object is known; the law's end with tables; x, y, z = a, b, c. -/
namespace GH
open PySem PySem.Spec PyProof.Rows L2 LamX
variable [TheWorld]
section
variable {P : Program} {w : World} {K : PySem.W.Frag} {mg : Str → Option Value} {base : Heap}
theorem fn_GT {name qual : Str} {params : Arguments} {body : List Stmt} {scope : Scope} {f : Addr} {fd : FuncData} {N ps : List Str} {k : Nat} {d : Stm} {D : DF} {dvs : List V} {kws : List (Str × V)} (F : FunD K name qual params body scope dvs kws f fd) (S : FnScope N ps scope)
    (hD : ∀ args h, args.length = ps.length → D args h = runDef N.length d args h ∨ D args h = tidy (runDef N.length d args h) h)
    (hbody : ∀ (cdv : Value), (∀ p, f = He.fAd K p → cdv = .ref (He.codeOf K p)) → ∀ (A : Around) (outer : List Env) (s : Shared) (H : Hp) (E : XK), Room k (A.deeper (envOfC qual scope s.heap.objs.size f cdv)) →
      PassesOwn (model P w) (A.deeper (envOfC qual scope s.heap.objs.size f cdv)) (envOfC qual scope s.heap.objs.size f cdv) (cxOf (L2.CX P w) P w K mg base N qual scope f cdv A outer s H E).xe →
      Takes (cxOf (L2.CX P w) P w K mg base N qual scope f cdv A outer s H E) (WD E) →
      GSs (cxOf (L2.CX P w) P w K mg base N qual scope f cdv A outer s H E) (WD E) body d) : FnOk P w K mg base (L2.CX P w) (k + 1) f fd ps (spG K D ps.length) := by
  obtain ⟨oc, od, dV, kV, doc, pm, an, cdv, ct, osl, rfl, lk, hcd, _, _⟩ := F.ex
  refine fn_of lk hcd S (fun vs H Q E h => h.1) (fun A outer s H vs Q E hr h => ⟨tS K (WD E) d, hbody cdv (fun p hp => by
    obtain ⟨c, hc⟩ := He.codeIn_ref hcd
    subst hp
    rw [He.codeOf_eq lk hc]
    exact hc) A outer s H E hr (passes_of rfl) (takes_of rfl rfl rfl rfl), ?_⟩)
  obtain ⟨hl, g, h, args, R, r, A⟩ := h
  have A : AfterC K g H Q E (runDef N.length d args h) := by
    rcases hD args h (by rw [r.length, hl]) with e | e
    · rw [e] at A; exact A
    · rw [e] at A; exact tidy_ok R A
  refine ⟨g, args.map some ++ List.replicate (N.length - args.length) none, h, ?_, R, ?_⟩
  · unfold L2.start
    refine ⟨by simp [r.length], fun i v e => ?_⟩
    by_cases hi : i < args.length
    · rw [List.getElem?_append_left (by simpa using hi), List.getElem?_map] at e
      cases ea : args[i]? with
      | none => rw [ea] at e; cases e
      | some a =>
        rw [ea] at e
        cases e
        obtain ⟨x, e1, e2⟩ := r.get ea
        exact ⟨x, by rw [List.getElem?_append_left (by simpa [← r.length] using hi), List.getElem?_map, e1]; rfl, e2⟩
    · rw [List.getElem?_append_right (by simpa using hi), List.getElem?_replicate] at e
      split at e <;> cases e
  · unfold runDef at A
    cases e : d (args.map some ++ List.replicate (N.length - args.length) none) h with
    | nx l h1 =>
      rw [e] at A
      intro g' H' σ' X R' S'
      exact A g' H' .non X R' (by simp only [VR])
    | rt v h1 => rw [e] at A; exact A
    | exc x l h1 =>
      rw [e] at A
      intro g' H' σ' cls dd X R' S' re
      exact A g' H' cls dd X R' re
    | bk l h1 => rw [e] at A; exact False.elim A
    | ct l h1 => rw [e] at A; exact False.elim A
    | fail => rw [e] at A; exact A
end
theorem tabObs {K : PySem.W.Frag} {H : Hp} : ∀ {nms : List (List Nat)} {i : Nat} {o : Ob} {a : Addr}, (nms.map Ob.tbl)[i]? = some o → (nms.map (tabA K))[i]? = some a → ∃ q ∈ nms, o = .tbl q ∧ a = tabA K q := by
  intro nms i o a e1 e2
  rw [List.getElem?_map] at e1 e2
  cases q : nms[i]? with
  | none => rw [q] at e1; cases e1
  | some z =>
    rw [q] at e1 e2
    cases e1
    cases e2
    exact ⟨z, List.mem_of_getElem? q, rfl, rfl⟩
theorem sp_lawT {K : PySem.W.Frag} {D : DF} {H : Hp} {a : Addr} {ns : List Int} {nms : List (List Nat)} (nd : (nms.map (tabA K)).Nodup) (hT : ∀ q ∈ nms, H (tabA K q) = some (.tbl #[])) (hs : SqL K H a (ns.map V.int))
    (hD : ∀ s, (s = .fz (ns.map .int) ∨ s = .lst (ns.map .int)) → ∃ h', D [s] (nms.map Ob.tbl) = .ok (.bl true) h') : spG K D 1 [.ref a] H (fun v _ => v = .bl true) fun _ _ _ => False := by
  have hint : ∀ ns : List Int, VRs K ⟨nms.map (tabA K), []⟩ H (ns.map .int) (ns.map V.int) := by
    intro ns
    induction ns with
    | nil => exact VRs.nil
    | cons n ns ih => exact VRs.cons (by simp only [VR]) ih
  have no : ∀ b o, H b = some o → (∀ ps, o ≠ .tbl ps) → ¬ (Gh.mk (nms.map (tabA K)) []).own b := fun b o e nt z => by
    rcases z with z | z
    · obtain ⟨q, hq, rfl⟩ := List.mem_map.mp z
      rw [hT q hq] at e
      cases e
      exact nt _ rfl
    · cases z
  have R : HR K ⟨nms.map (tabA K), []⟩ H (nms.map Ob.tbl) := ⟨by simp, nd, fun a ha => by simp, fun a ha => absurd ha (by simp), fun i o a e1 e2 => by
    obtain ⟨q, hq, rfl, rfl⟩ := tabObs (K := K) (H := H) e1 e2
    exact ⟨rfl, #[], hT q hq, True.intro, fun pos cv z => by simp [codeAmong] at z⟩⟩
  have key : ∃ s, (s = .fz (ns.map .int) ∨ s = .lst (ns.map .int)) ∧ VR K ⟨nms.map (tabA K), []⟩ H s (.ref a) := by
    rcases hs with (hs | ⟨o, hs⟩) | hs
    · exact ⟨_, .inr rfl, by simp only [VR]; exact ⟨a, _, rfl, no _ _ hs (by intro ps z; cases z), hs, hint ns⟩⟩
    · exact ⟨_, .inl rfl, by simp only [VR]; exact ⟨a, _, rfl, .inl ⟨o, hs⟩, hint ns⟩⟩
    · exact ⟨_, .inl rfl, by simp only [VR]; exact ⟨a, _, rfl, .inr hs, hint ns⟩⟩
  obtain ⟨s, hs1, r⟩ := key
  obtain ⟨h', e⟩ := hD s hs1
  refine ⟨rfl, ⟨nms.map (tabA K), []⟩, nms.map Ob.tbl, [s], R, VRs.one r, ?_⟩
  rw [e]
  intro g' H' x E R r
  simpa only [VR] using r
section
variable {X : Cx} {W : WX}
def sPar3 (i j k : Nat) (d : DenG (List Val)) : Stm := fun l h => (d l h).to l fun vs h1 => match vs with
  | [u, v, w] => .nx (((l.set i (some u)).set j (some v)).set k (some w)) h1
  | _ => .fail
theorem gs_par3 (i j k : Nat) {x y z : Str} {a b c : Expr} {d : DenG (List Val)} {px py pz pt pos : Pos} {kt k2 pt2} (hc : X.calm = true) (hN : X.N.Nodup) (ha : GA X W [a, b, c] d) (hi : X.N[i]? = some x := by rfl) (hj : X.N[j]? = some y := by rfl) (hk : X.N[k]? = some z := by rfl) (hij : i ≠ j := by decide) (hik : i ≠ k := by decide) (hjk : j ≠ k := by decide)
    (hx : X.env.scope.names.lookup x = some .local := by rfl) (hy : X.env.scope.names.lookup y = some .local := by rfl) (hz : X.env.scope.names.lookup z = some .local := by rfl)
    (hw : swappedStores [.Tuple [.Name x px, .Name y py, .Name z pz] kt pt] (.Tuple [a, b, c] k2 pt2) X.env = pure (some [x, y, z]) := by rfl)
    (hs : swapsWithSole [.Tuple [.Name x px, .Name y py, .Name z pz] kt pt] (.Tuple [a, b, c] k2 pt2) pos.line X.env = pure false := by rfl) :
    GS X W (.Assign [.Tuple [.Name x px, .Name y py, .Name z pz] kt pt] (.Tuple [a, b, c] k2 pt2) pos) (sPar3 i j k d) := by
  refine PS.imp (ps_par3 hc hN hi hj hk hij hik hjk hx hy hz ha hw hs) fun D σ H ⟨g, l, h, S, R, A⟩ => ?_
  refine tG_to S R A fun vs h1 g1 H1 xs E S1 R1 r1 A1 => ?_
  split at A1
  · rename_i u v w
    have r1 : VRs X.K g1 H1 [u, v, w] xs := r1
    simp only [VRs] at r1
    obtain ⟨x0, _, rfl, ru, x1, _, rfl, rx, x2, _, rfl, ry, rfl⟩ := r1
    exact ⟨x0, x1, x2, rfl, A1 g1 H1 _ Ext.refl R1 (((S1.set i ru).set j rx).set k ry)⟩
  · exact A1.elim
end
end GH
set_option Elab.async false
set_option linter.all false
set_option maxRecDepth 100000
set_option maxHeartbeats 1000000
set_option autoImplicit false
/-! the tape behind a table. -/
namespace GH
open PySem
variable [TheWorld]
section
variable (t : Tape) (a0 : Ob) (g : Hv)
@[simp] theorem tp_cells_1 : vIx (.ref 1) (.str [99, 101, 108, 108, 115]) (a0 :: .dic t.dic :: g) = .ok (.lst (t.cells.map .int)) (a0 :: .dic t.dic :: g) := nrfl rfl
@[simp] theorem tp_at_1 : vIx (.ref 1) (.str [97, 116]) (a0 :: .dic t.dic :: g) = .ok (.int t.at_) (a0 :: .dic t.dic :: g) := nrfl rfl
@[simp] theorem tp_left_1 : vIx (.ref 1) (.str [108, 101, 102, 116]) (a0 :: .dic t.dic :: g) = .ok (.int t.left) (a0 :: .dic t.dic :: g) := nrfl rfl
@[simp] theorem tp_seed_1 : vIx (.ref 1) (.str [115, 101, 101, 100]) (a0 :: .dic t.dic :: g) = .ok (.int t.seed) (a0 :: .dic t.dic :: g) := nrfl rfl
@[simp] theorem tp_salt_1 : vIx (.ref 1) (.str [115, 97, 108, 116]) (a0 :: .dic t.dic :: g) = .ok (.int t.salt) (a0 :: .dic t.dic :: g) := nrfl rfl
@[simp] theorem ts_at_1 (i : Int) : vSet (.ref 1) (.str [97, 116]) (.int i) (a0 :: .dic t.dic :: g) = some (a0 :: .dic { t with at_ := i }.dic :: g) := nrfl rfl
@[simp] theorem ts_left_1 (i : Int) : vSet (.ref 1) (.str [108, 101, 102, 116]) (.int i) (a0 :: .dic t.dic :: g) = some (a0 :: .dic { t with left := i }.dic :: g) := nrfl rfl
@[simp] theorem ts_salt_1 (i : Int) : vSet (.ref 1) (.str [115, 97, 108, 116]) (.int i) (a0 :: .dic t.dic :: g) = some (a0 :: .dic { t with salt := i }.dic :: g) := nrfl rfl
end
theorem take_key1 {m : Int} {a0 : Ob} {g : Hv} {P : Val → Hv → Prop} (hm : 0 < m) (hm2 : m < 1073741824) (k : ∀ r o', 0 ≤ r → r < m → TapeOb o' → P (.int r) (a0 :: o' :: g)) (t : Tape) (ht : 0 ≤ t.at_) : sok ((sSeq (sIf (dB (dBin vGt (dBin vIx (dVar 0) (dC (.str [108, 101, 102, 116]))) (dC (.int 0)))) (sSeq (sAsg (dBin vMod (dFn vInt (dBin vIx (dVar 0) (dC (.str [108, 101, 102, 116])))) (dVar 1)) (gName 3))
    (sSeq (sAsg (dBin vDiv (dBin vIx (dVar 0) (dC (.str [108, 101, 102, 116]))) (dVar 1)) (gSub (dVar 0) (dC (.str [108, 101, 102, 116]))))
    (sSeq (sRet (dVar 3))
    sNext))) sNext)
    (sSeq (sAsg (dBin vAdd (dBin vIx (dVar 0) (dC (.str [115, 97, 108, 116]))) (dC (.int 1))) (gSub (dVar 0) (dC (.str [115, 97, 108, 116]))))
    (sSeq (sAsg (dBin vMod (dFn vInt (dBin vAdd (dBin vMul (dBin vIx (dVar 0) (dC (.str [115, 101, 101, 100]))) (dC (.int 48271))) (dBin vMul (dBin vIx (dVar 0) (dC (.str [115, 97, 108, 116]))) (dC (.int 69621))))) (dC (.int 2147483647))) (gName 2))
    (sSeq (sAsg (dBin vMod (dFn vInt (dBin vAdd (dBin vAdd (dBin vMul (dVar 2) (dVar 2)) (dBin vMul (dBin vIx (dVar 0) (dC (.str [115, 97, 108, 116]))) (dC (.int 40692)))) (dC (.int 12345)))) (dC (.int 2147483399))) (gName 2))
    (sSeq (sRet (dBin vMod (dFn vInt (dVar 2)) (dVar 1)))
    sNext))))) [some (.ref 1), some (.int m), none, none] (a0 :: .dic t.dic :: g)) { nx := fun _ h => P .non h, rt := P } := by
    by_cases hl : 0 < t.left
    · simp [dVar]
      simp [hl, dVar, vMod_ok _ hm, vDiv_ok _ hm hm2]
      exact k _ _ (Int.emod_nonneg _ (by omega)) (Int.emod_lt_of_pos _ hm) ⟨_, by exact ht, rfl⟩
    · refine sok_seq (fun l h => l = [some (.ref 1), some (.int m), none, none] ∧ h = a0 :: .dic t.dic :: g) (by simp [hl, dVar]) ?_
      rintro l h ⟨rfl, rfl⟩
      refine sok_seq (fun l h => l = [some (.ref 1), some (.int m), none, none] ∧ ∃ t' : Tape, 0 ≤ t'.at_ ∧ h = a0 :: .dic t'.dic :: g) (by simp [dVar]; exact ⟨_, by exact ht, rfl⟩) ?_
      rintro l h ⟨rfl, t, ht, rfl⟩
      refine sok_seq (fun l h => (∃ x, big64 x = true ∧ l = [some (.ref 1), some (.int m), some (.int x), none]) ∧ h = a0 :: .dic t.dic :: g) ?_ ?_
      · simp [dVar, vMul_ok _ (.inr big_a), vMul_ok _ (.inr big_b), vMod_ok _ p1]
        exact big_mod _
      rintro l h ⟨⟨x, hx, rfl⟩, rfl⟩
      refine sok_seq (fun l h => (∃ x, l = [some (.ref 1), some (.int m), some (.int x), none]) ∧ h = a0 :: .dic t.dic :: g) ?_ ?_
      · simp [dVar, vMul_ok _ (.inl hx), vMul_ok _ (.inr big_c), vMod_ok _ p2]
      rintro l h ⟨⟨x, rfl⟩, rfl⟩
      simp [dVar, vMod_ok _ hm]
      exact k _ _ (Int.emod_nonneg _ (by omega)) (Int.emod_lt_of_pos _ hm) ⟨_, by exact ht, rfl⟩
theorem take_sp1 {m : Int} {a0 : Ob} {o : Ob} {g : Hv} {P : Val → Hv → Prop} (hm : 0 < m) (hm2 : m < 1073741824) (ho : TapeOb o)
    (k : ∀ r o', 0 ≤ r → r < m → TapeOb o' → P (.int r) (a0 :: o' :: g)) : ok (runDef 4 bTake [.ref 1, .int m] (a0 :: o :: g)) P := by
  obtain ⟨t, ht, rfl⟩ := ho
  rw [ok_run]
  refine sok_seq (fun l h => l = [some (.ref 1), some (.int m), none, none] ∧ ∃ t' : Tape, 0 ≤ t'.at_ ∧ h = a0 :: .dic t'.dic :: g) ?_ (fun l h ⟨e1, t', h1, e2⟩ => by subst e1 e2; exact take_key1 hm hm2 k t' h1)
  simp [dVar]
  by_cases hc : t.left = 0
  · by_cases h2 : t.at_ < t.cells.length
    · obtain ⟨v, e1, e2⟩ := nth_of (l := t.cells.map Val.int) ht (by simpa using h2)
      obtain ⟨c, hc', rfl⟩ := List.mem_map.mp e2
      simp [hc, h2, dVar, vIx_lst e1]
      exact ⟨{ t with left := c, at_ := t.at_ + 1 }, by show 0 ≤ t.at_ + 1; omega, rfl⟩
    · simp [hc, h2, dVar]
      exact ⟨t, ht, rfl⟩
  · simp [hc, dVar]
    exact ⟨t, ht, rfl⟩
theorem tape_spL {ns : List Int} {h : Hv} {P : Val → Hv → Prop} (k : ∀ o, TapeOb o → P (.ref h.length) (h ++ [o])) : ok (runDef 4 bTape [.lst (ns.map .int)] h) P := by
  simp only [ok_run, bTape, e_seq, sok_then]
  simp only [List.map_cons, List.map_nil, List.length_cons, List.length_nil, List.cons_append, List.nil_append, List.replicate]
  simp [dVar]
  refine lc_pure (fun _ => true) (fun v => match v with | .int i => .int (if i < 0 then -i else i) | v => v) trivial ?_ ?_
  · intro x hx
    obtain ⟨i, hi, rfl⟩ := List.mem_map.mp hx
    simp [wipeL, dVar]
  · have e : ∀ ns : List Int, (List.filter (fun _ => true) (ns.map Val.int)).map (fun v => match v with | .int i => .int (if i < 0 then -i else i) | v => v) = (ns.map fun i => if i < 0 then -i else i).map Val.int := by
      intro ns
      induction ns with
      | nil => rfl
      | cons n ns ih => simp only [List.map_cons, List.filter_cons, if_true] at ih ⊢; rw [ih]
    rw [e]
    refine forL_inv (fun items l h1 => h1 = h ∧ (∃ x y, l = [some (.lst (ns.map .int)), some (.lst ((ns.map fun i => if i < 0 then -i else i).map Val.int)), some (.int x), y]) ∧ ∀ z ∈ items, ∃ i, z = Val.int i) ?_ ?_ _ _ _ ?_
    · rintro x r l h1 ⟨rfl, ⟨s, y, rfl⟩, hz⟩
      obtain ⟨i, rfl⟩ := hz x (List.mem_cons_self ..)
      refine ⟨trivial, ?_⟩
      simp [dVar, vMul_ok _ (.inr big_d), vMod_ok _ p1]
      exact fun z hz' => hz z (List.mem_cons_of_mem _ hz')
    · rintro l h1 ⟨rfl, ⟨s, y, rfl⟩, _⟩
      refine ⟨trivial, ?_⟩
      simp [dDisp, dPairs, dVar, keyOf]
      exact k _ ⟨⟨ns.map fun i => if i < 0 then -i else i, 0, 0, s, 0⟩, Int.le_refl _, by simp [dMk, dPut, kEq, Tape.dic]⟩
    · exact ⟨rfl, ⟨7, none, rfl⟩, fun z hz => by obtain ⟨i, _, rfl⟩ := List.mem_map.mp hz; exact ⟨i, rfl⟩⟩
end GH
set_option Elab.async false
set_option linter.all false
set_option maxRecDepth 100000
set_option maxHeartbeats 1000000
set_option autoImplicit false
namespace GH
open PySem
variable [TheWorld]
/-! steps as equations -/
section
variable {n : Nat} {b : Stm} {args : List Val} {h h1 : Hv} {l' : GH.Loc}
theorem run_nx (e : b (args.map some ++ List.replicate (n - args.length) none) h = .nx l' h1) : runDef n b args h = .ok .non h1 := by simp only [runDef, e]
theorem run_rt {v : Val} (e : b (args.map some ++ List.replicate (n - args.length) none) h = .rt v h1) : runDef n b args h = .ok v h1 := by simp only [runDef, e]
theorem run_exc {x : Ex} (e : b (args.map some ++ List.replicate (n - args.length) none) h = .exc x l' h1) : runDef n b args h = .exc x h1 := by simp only [runDef, e]
end
section
variable {d : Den} {t : Tg} {a b rest : Stm} {l l1 : GH.Loc} {h h1 : Hv} {v : Val} {x : Ex} {tt : DenG Bool} {i : Nat}
theorem expr_eq (e : d l h = .ok v h1) : sSeq (sExpr d) rest l h = rest l h1 := by
  rw [e_seq, e_expr, e]
  rfl
theorem expr_ex (e : d l h = .exc x h1) : sSeq (sExpr d) rest l h = .exc x l h1 := by
  rw [e_seq, e_expr, e]
  rfl
theorem asg_eq (e : d l h = .ok v h1) (e2 : t v l h1 = .ok l1 h1) : sSeq (sAsg d t) rest l h = rest l1 h1 := by
  rw [e_seq, e_asg, e]
  simp [e2]
theorem set_eq (e : d l h = .ok v h1) : sSeq (sAsg d (gName i)) rest l h = rest (l.set i (some v)) h1 := asg_eq e rfl
theorem asg_ex (e : d l h = .exc x h1) : sSeq (sAsg d t) rest l h = .exc x l h1 := by
  rw [e_seq, e_asg, e]
  rfl
theorem ret_eq (e : d l h = .ok v h1) : sSeq (sRet d) rest l h = .rt v h1 := by
  rw [e_seq, e_ret, e]
  rfl
theorem ret_ex (e : d l h = .exc x h1) : sSeq (sRet d) rest l h = .exc x l h1 := by
  rw [e_seq, e_ret, e]
  rfl
theorem if_t (e : tt l h = .ok true h1) : sSeq (sIf tt a b) rest l h = (a l h1).andThen rest := by
  rw [e_seq, e_if, e]
  rfl
theorem if_f (e : tt l h = .ok false h1) : sSeq (sIf tt a sNext) rest l h = rest l h1 := by
  rw [e_seq, e_if, e]
  rfl
theorem if_e (e : tt l h = .ok false h1) : sSeq (sIf tt a b) rest l h = (b l h1).andThen rest := by
  rw [e_seq, e_if, e]
  rfl
theorem wh_f (e : tt l h = .ok false h1) : sWhile tt a l h = .nx l h1 := by
  rw [sWhile_eq, e]
  rfl
theorem wh_t (e : tt l h = .ok true h1) : sWhile tt a l h = (a l h1).turn (sWhile tt a) := by
  rw [sWhile_eq, e]
  rfl
end
theorem cut_mid {α : Type} (l : List α) (a b : Nat) : cut l (some (a : Int)) (some (b : Int)) = (l.drop a).take (b - a) := by
  unfold cut
  rw [HT.sIx_nat, HT.sIx_nat]
  by_cases h : a ≤ l.length
  · rw [Nat.min_eq_left h]
    by_cases h2 : b ≤ l.length
    · rw [Nat.min_eq_left h2]
    · rw [Nat.min_eq_right (by omega), List.take_of_length_le (by simp), List.take_of_length_le (by simp; omega)]
  · rw [Nat.min_eq_right (show l.length ≤ a by omega), List.drop_of_length_le (Nat.le_refl _), List.drop_of_length_le (show l.length ≤ a by omega)]
    simp
section
variable {t : List Nat} {h : Hv}
theorem cut_str (ht : t.length ≤ 100000) (a b : Nat) : vCut (.str t) (some (a : Int)) (some (b : Int)) h = .ok (.str ((t.drop a).take (b - a))) h := by
  simp only [vCut]
  rw [if_pos (show t.length ≤ lineN by unfold lineN; omega), cut_mid]
theorem cut_to (ht : t.length ≤ 100000) (b : Nat) : vCut (.str t) none (some (b : Int)) h = .ok (.str (t.take b)) h := by
  simp only [vCut]
  rw [if_pos (show t.length ≤ lineN by unfold lineN; omega), cut_take]
theorem cut_from (ht : t.length ≤ 100000) (b : Nat) : vCut (.str t) (some (b : Int)) none h = .ok (.str (t.drop b)) h := by
  simp only [vCut]
  rw [if_pos (show t.length ≤ lineN by unfold lineN; omega), cut_drop]
theorem len_str (ht : t.length ≤ 100000) : vLen (.str t) h = .ok (.int t.length) h := by
  simp only [vLen]
  rw [if_pos (show t.length ≤ lineN by unfold lineN; omega)]
theorem ix_str {p c : Nat} (ht : t.length ≤ 100000) (e : t[p]? = some c) : vIx (.str t) (.int p) h = .ok (.str [c]) h := by
  simp only [vIx]
  rw [if_pos (show t.length ≤ lineN by unfold lineN; omega), nth_nat e]
end
theorem tidy_okE {r : Res Val} {h : Hv} {v : Val} {g : Hv} (e : r = .ok v (h ++ g)) (o : okV v = true) : tidy r h = .ok v h :=
  eq_of (tidy_app (by rw [e]; exact ⟨⟨g, rfl⟩, o, rfl, rfl⟩))
theorem tidy_excE {r : Res Val} {h : Hv} {C : Tx} {g : Hv} (e : r = .exc ⟨C, []⟩ (h ++ g)) : tidy r h = .exc ⟨C, []⟩ h := by
  rw [e]
  unfold tidy
  simp only
  rw [if_pos]
  · simp
  · refine ⟨⟨by simp, fun i hi => .inl ?_⟩, rfl⟩
    rw [List.getElem?_append_left hi]
theorem raise_if {t : DenG Bool} {E : Tx} {rest : Stm} {l : GH.Loc} {h : Hv} {c : Bool} (e : t l h = .ok c h) : sSeq (sIf t (sSeq (sRaise E) sNext) sNext) rest l h = if c = true then .exc ⟨E, []⟩ l h else rest l h := by
  rw [e_seq, e_if, e]
  cases c <;> rfl
theorem joinL_nil : ∀ L : List Tx, TL.joinL [] L = L.flatten
  | [] => rfl
  | [p] => by simp [TL.joinL]
  | p :: q :: r => by rw [TL.joinL, joinL_nil (q :: r)]; simp
theorem for_nil {t : Tg} {b : Stm} {it : List Val} {l : GH.Loc} {h : Hv} : forL t b (it, none) [] l h = .nx l h := by simp [forL]
theorem for_cons {t : Tg} {b : Stm} {it r : List Val} {x : Val} {l l1 : GH.Loc} {h : Hv} (e : t x l h = .ok l1 h) : forL t b (it, none) (x :: r) l h = (b l1 h).turn (forL t b (it, none) r) := by
  simp [forL, e]
theorem nth_last {α : Type} (L : List α) (x : α) : nth (L ++ [x]) (-1) = some x := by
  have e : (-1 + ((L.length : Int) + 1)).toNat = L.length := by omega
  simp [nth, e]
  omega
theorem join_nil {L : List Tx} {h : Hv} (hl : L.flatten.length ≤ 16777216) : vJoin (.str []) (.lst (L.map .str)) h = .ok (.str L.flatten) h := by
  simp only [vJoin, seqOf, lstOf, strsOf_map]
  rw [if_pos (by simpa [List.length_flatten] using hl), joinL_nil]
theorem add_str {a b : Tx} {h : Hv} (e : a.length + b.length ≤ 16777216) : vAdd (.str a) (.str b) h = .ok (.str (a ++ b)) h := by
  simp [vAdd, lineN, e]
theorem sum_ints (L : List Int) (h : Hv) : vSum (.lst (L.map .int)) h = .ok (.int L.sum) h := by
  have : ∀ L : List Int, intsOf (L.map Val.int) = some L := by
    intro L
    induction L with
    | nil => rfl
    | cons a L ih => simp [intsOf, ih]
  simp [vSum, lstOf, this]
end GH
set_option Elab.async false
set_option linter.all false
set_option maxRecDepth 100000
set_option maxHeartbeats 1000000
set_option autoImplicit false
namespace GH
open PySem
variable [TheWorld]
theorem below_ints (n : Nat) (L : List Int) : belows n (L.map .int) = true := by
  induction L with
  | nil => rfl
  | cons a L ih => simp [belows, below, ih]
theorem below_tape (n : Nat) {o : Ob} (h : TapeOb o) : belowO n o = true := by
  obtain ⟨t, _, rfl⟩ := h
  simp [belowO, Tape.dic, belows, below, below_ints]
/-- a def that draws from the tape and hands back a plain value -/
theorem tidy_tape {r : Res Val} {a0 o : Ob} {g : Hv} {P : Val → Hv → Prop} (k : ok r fun v h' => ∃ o' g', h' = a0 :: o' :: (g ++ g') ∧ TapeOb o' ∧ okV v = true ∧ P v (a0 :: o' :: g)) : ok (tidy r (a0 :: o :: g)) P := by
  obtain ⟨v, h', e, o', g', rfl, to, okv, hp⟩ := ok_eq k
  rw [e]
  have kp : kept (a0 :: o :: g).length (a0 :: o :: g) (a0 :: o' :: (g ++ g')) := by
    refine ⟨by simp, fun i hi => ?_⟩
    cases i with
    | zero => exact .inl rfl
    | succ i =>
      cases i with
      | zero =>
        refine .inr fun x ex => ?_
        have : o' = x := by simpa using ex
        subst this
        exact below_tape _ to
      | succ i =>
        refine .inl ?_
        simp only [List.getElem?_cons_succ]
        rw [List.getElem?_append_left (by simpa using hi)]
  unfold tidy
  dsimp only
  rw [if_pos kp, frzs_self okv]
  dsimp only
  rw [ok_ok]
  have : (a0 :: o' :: (g ++ g')).take (a0 :: o :: g).length = a0 :: o' :: g := by simp
  rw [this]
  exact hp
theorem veq_self {v : Val} (o : okV v = true) : veq v v = true := SeqAt.eqv_refl _ (pd_lay v o)
theorem eqOk_self {v : Val} (o : okV v = true) (d : dpV v ≤ 190) : eqOk v v = true := by simp [eqOk, o, d]
theorem vNe_tup {L : List Val} {h : Hv} (o : okV (.tup L) = true) (d : dpV (.tup L) ≤ 190) : vNe (.tup L) (.tup L) h = .ok (.bl false) h := by
  simp [vNe, thaw, eqOk_self o d, veq_self o]
theorem vNe_lst {L : List Val} {h : Hv} (o : okV (.lst L) = true) (d : dpV (.lst L) ≤ 190) : vNe (.lst L) (.lst L) h = .ok (.bl false) h := by
  simp [vNe, thaw, eqOk_self o d, veq_self o]
theorem vNe_bl (a b : Bool) (h : Hv) : vNe (.bl a) (.bl b) h = .ok (.bl (!decide (a = b))) h := by
  simp [vNe, thaw, eqOk, okV, dpV]
end GH
set_option Elab.async false
set_option linter.all false
set_option maxRecDepth 100000
set_option maxHeartbeats 1000000
set_option autoImplicit false
/-! dicts with tuples as keys: made, read, asked, written. -/
namespace GH
open PySem PySem.Spec PyProof.Rows L2
variable [TheWorld]
/-- the dict of ours at a reference -/
def dnOf (h : Hv) : Val → Option (List (Val × Val))
  | .ref i => match h[i]? with
    | some (.dn l) => some l
    | _ => none
  | _ => none
/-- a key that may be used: a tuple of some depth -/
def keyOk (u : Val) : Bool := match u with
  | .tup _ => match keyN u with
    | some k => decide (k.depth ≤ 8)
    | none => false
  | _ => false
section
variable {X : Cx} {W : WX} {g : Gh} {H : Hp} {h : Hv} {σ : L2.St} {v u w : Val} {x y z : V} {l : List (Val × Val)}
structure DnAt (K : PySem.W.Frag) (g : Gh) (H : Hp) (a : Addr) (l : List (Val × Val)) (xs : NX) (ys : List V) : Prop where
  at_ : H a = some (DN a xs)
  np : NP a l xs.2 ys
  nr : NR K g H l xs.2 ys
theorem DnAt.len {K : PySem.W.Frag} {a : Addr} {xs : NX} {ys : List V} (d : DnAt K g H a l xs ys) : xs.2.length = l.length := by
  have := congrArg List.length d.np.ks
  simpa using this.symm
theorem dnOf_ok (R : HR X.K g H h) (r : VR X.K g H v x) (e : dnOf h v = some l) : ∃ i a xs ys, v = .ref i ∧ x = .ref a ∧ g.m[i]? = some a ∧ h[i]? = some (.dn l) ∧ DnAt X.K g H a l xs ys := by
  cases v with
  | ref i =>
    simp only [dnOf] at e
    split at e
    · rename_i l' hl
      cases e
      simp only [VR] at r
      obtain ⟨a, rfl, hm⟩ := r
      obtain ⟨xs, ys, e1, p, r1, r2⟩ := ref_at R hl hm
      exact ⟨i, a, xs, ys, rfl, rfl, hm, hl, e1, p, NR.of p.ks p.dp p.vs r1 r2⟩
    · cases e
  | _ => simp [dnOf] at e
theorem keyOk_ok (r : VR X.K g H u y) (e : keyOk u = true) : ∃ b k, y = .ref b ∧ keyN u = some k ∧ k.depth ≤ 8 ∧ VR X.K g H u (.ref b) := by
  cases u with
  | tup l =>
    unfold keyOk at e
    cases q : keyN (.tup l) with
    | none => simp [q] at e
    | some k =>
      simp [q] at e
      have r' := r
      simp only [VR] at r
      obtain ⟨a, xs, rfl, _⟩ := r
      exact ⟨a, k, rfl, rfl, e, r'⟩
  | _ => simp [keyOk] at e
/-- d[k] -/
def vIxN (v u : Val) (h : Hv) : Res Val := match dnOf h v with
  | some l => if keyOk u then (match dGetN l u with
    | some w => .ok w h
    | none => .fail) else .fail
  | none => .fail
def rIxN (K : PySem.W.Frag) : R2 := fun x y H Q => ∃ g a b l xs ys k nk v, x = .ref a ∧ y = .ref b ∧ DnAt K g H a l xs ys ∧ keyN k = some nk ∧ nk.depth ≤ 8 ∧ VR K g H k (.ref b) ∧ dGetN l k = some v ∧ ∀ z, VR K g H v z → Q z H
theorem ix_dn (hu : X.A.units + 200 < cLine) (hw : X.w = TheWorld.w) : IxR X (rIxN X.K) := by
  intro value slice pins s σ H x y v u Q I rx ry h hs
  obtain ⟨g, a, b, l, xs, ys, k, nk, c, rfl, rfl, D, hk, hd, rk, hv, q⟩ := h
  obtain rfl : v = Value.ref a := rx
  obtain rfl : u = Value.ref b := ry
  exact tail_any (dn_type I D.at_).1 PySem.F.slot_dict_getitem.lookup (dn_getItem (y := .non) (u := .none) hu I hw D.at_ D.np.nd D.nr hk hd rk hv fun z w' s' I' rz rw' => ⟨z, H, I', rw', q z rz⟩) hs
theorem ge_ixN {a b : Expr} {da db : Den} {pos : Pos} (hu : X.A.units + 200 < cLine) (hw : X.w = TheWorld.w) (ha : GE X W a da) (hb : GE X W b db) (hs : PlainIx b := by exact fun _ _ => rfl) : GE X W (.Subscript a b pos) (dBin vIxN da db) := by
  refine PE.imp (pe_ix (ix_dn hu hw) ha hb hs) fun σ H Q ⟨g, l, h, S, R, A⟩ => ?_
  refine tG_of S R A fun v h1 g1 H1 x E S1 R1 r1 A1 => ?_
  refine tG_of S1 R1 A1 fun u h2 g2 H2 y E2 S2 R2 r2 A2 => ?_
  unfold vIxN at A2
  split at A2
  · rename_i l hl
    split at A2
    · rename_i hk
      split at A2
      · rename_i w e
        obtain ⟨i, a, xs, ys, rfl, rfl, hm, hi, D⟩ := dnOf_ok R2 (r1.ext R1 E2) hl
        obtain ⟨b, nk, rfl, h1, h2, r⟩ := keyOk_ok r2 hk
        exact ⟨g2, a, b, l, xs, ys, u, nk, w, rfl, rfl, D, h1, h2, r, e, fun z rz => A2 g2 H2 z Ext.refl R2 rz⟩
      · exact A2.elim
    · exact A2.elim
  · exact A2.elim
/-- k in d -/
def isInN (v u : Val) (h : Hv) : Res Bool := match dnOf h u with
  | some l => if keyOk v then .ok (l.any fun p => kEqN p.1 v) h else .fail
  | none => .fail
def vInN (v u : Val) (h : Hv) : Res Val := (isInN v u h).bind fun b h1 => .ok (.bl b) h1
def vNotInN (v u : Val) (h : Hv) : Res Val := (isInN v u h).bind fun b h1 => .ok (.bl (!b)) h1
def rInN (K : PySem.W.Frag) (neg : Bool) : R2 := fun y x H Q => ∃ g a b l xs ys k nk, x = .ref a ∧ y = .ref b ∧ DnAt K g H a l xs ys ∧ keyN k = some nk ∧ nk.depth ≤ 8 ∧ VR K g H k (.ref b) ∧ Q (.bl (if neg then !(l.any fun p => kEqN p.1 k) else l.any fun p => kEqN p.1 k)) H
theorem dn_notIn {pins : List (Addr × Obj)} {s : Shared} {A : Around} {E : Value → Shared → Prop} {a : Addr} {xs : NX} {ys : List V} {k : Val} {Q : Value → Shared → Prop} (hu : A.units + 200 < cLine) (I : Inv X pins σ H s) (hw : X.w = TheWorld.w) (e : H a = some (DN a xs)) (hs : (a == sysModules) = false) (nd : (xs.2.map (·.1)).Nodup) (r : NR X.K g H l xs.2 ys)
    {nk : NestedKey} (hk : keyN k = some nk) (hd : nk.depth ≤ 8) {b : Addr} (rk : VR X.K g H k (.ref b)) (h : ∀ s', Inv X pins σ H s' → Q (.bool (!(l.any fun p => kEqN p.1 k))) s') : wpAny (model X.prog X.w) A (compareOp .NotIn (.ref b) (.ref a)) Q E s := by
  refine wpAny_notIn_heap (knd := nestedKind X.prog X.w) (show A.units + 1 + 8 < cLine by omega) ⟨keyN_is I hk rk rfl, hd⟩ hs (dn_of I hw e nd r) ?_
  rw [← NR.any hk r]
  exact h _ (I.tok _)
theorem isInN_ok (neg : Bool) (R : HR X.K g H h) (rv : VR X.K g H v x) (ru : VR X.K g H u y) {Q : VK} (A : After X.K W (vr X.K) σ g H Q ((isInN v u h).bind fun b h1 => .ok (.bl (if neg then !b else b)) h1)) : rInN X.K neg x y H Q := by
  unfold isInN at A
  split at A
  · rename_i l hl
    split at A
    · rename_i hk
      obtain ⟨i, a, xs, ys, rfl, rfl, hm, hi, D⟩ := dnOf_ok R ru hl
      obtain ⟨b, nk, rfl, h1, h2, r⟩ := keyOk_ok rv hk
      exact ⟨g, a, b, l, xs, ys, v, nk, rfl, rfl, D, h1, h2, r, A g H _ Ext.refl R (by simp only [VR])⟩
    · exact A.elim
  · exact A.elim
theorem og_inN (hu : X.A.units + 200 < cLine) (hw : X.w = TheWorld.w) : OpG X (compareOp .In) vInN := by
  refine ⟨rInN X.K false, ?_, fun W g H h σ v u x y Q R rv ru A => isInN_ok false R rv ru A⟩
  intro pins s σ H y x u v Q I ry rx h
  obtain ⟨g, a, b, l, xs, ys, k, nk, rfl, rfl, D, hk, hd, rk, q⟩ := h
  obtain rfl : v = Value.ref a := rx
  obtain rfl : u = Value.ref b := ry
  exact dn_in hu I hw D.at_ D.np.sys D.np.nd D.nr hk hd rk fun s' I' => ⟨.bl _, H, I', rfl, q⟩
theorem og_notInN (hu : X.A.units + 200 < cLine) (hw : X.w = TheWorld.w) : OpG X (compareOp .NotIn) vNotInN := by
  refine ⟨rInN X.K true, ?_, fun W g H h σ v u x y Q R rv ru A => isInN_ok true R rv ru A⟩
  intro pins s σ H y x u v Q I ry rx h
  obtain ⟨g, a, b, l, xs, ys, k, nk, rfl, rfl, D, hk, hd, rk, q⟩ := h
  obtain rfl : v = Value.ref a := rx
  obtain rfl : u = Value.ref b := ry
  exact dn_notIn hu I hw D.at_ D.np.sys D.np.nd D.nr hk hd rk fun s' I' => ⟨.bl _, H, I', rfl, q⟩
/-- d[k] = v -/
def vSetN (o i v : Val) (h : Hv) : Option Hv := match o with
  | .ref a => match h[a]? with
    | some (.dn l) => if keyOk i ∧ l.length < lineN then some (h.set a (.dn (dPutN l i v))) else none
    | _ => none
  | _ => none
def gSubN (o i : Den) : Tg := fun v l h => (o l h).toT l fun x h1 => (i l h1).toT l fun y h2 => match vSetN x y v h2 with
  | some h3 => .ok l h3
  | none => .fail
def rSetN (K : PySem.W.Frag) : V → V → V → Hp → (Hp → Prop) → Prop := fun o i z H Q => ∃ g a b l xs ys k nk, o = .ref a ∧ i = .ref b ∧ DnAt K g H a l xs ys ∧ keyN k = some nk ∧ nk.depth ≤ 8 ∧ VR K g H k (.ref b) ∧ ∀ u o, RelV z u → ((storedH xs.2 nk b u).map (·.1)).Nodup → Q (upd H a (DN a (o, storedH xs.2 nk b u)))
theorem set_dn (hu : X.A.units + 200 < cLine) (hw : X.w = TheWorld.w) : PSet X (rSetN X.K) := by
  intro pins s σ H o i z ov iv u Q I ro ri rv h
  obtain ⟨g, a, b, l, xs, ys, k, nk, rfl, rfl, D, hk, hd, rk, q⟩ := h
  obtain rfl : ov = Value.ref a := ro
  obtain rfl : iv = Value.ref b := ri
  exact dn_setItem (v := .non) (y := .non) hu I hw D.at_ (by rw [D.len]; exact D.np.sz) D.np.nd D.nr hk hd rk fun s' o nd I' => ⟨_, I', q u o rv nd⟩
theorem vSetN_ok {h' : Hv} {o i v : Val} {z : V} {Q : Hp → Prop} (R : HR X.K g H h) (ro : VR X.K g H o x) (ri : VR X.K g H i y) (rv : VR X.K g H v z) (e : vSetN o i v h = some h') (q : ∀ H', Ext g H g H' → HR X.K g H' h' → Q H') : rSetN X.K x y z H Q := by
  unfold vSetN at e
  split at e
  · rename_i a
    split at e
    · rename_i l hl
      split at e
      · rename_i hk
        cases e
        obtain ⟨j, b, xs, ys, ej, rfl, hm, hi, D⟩ := dnOf_ok (v := .ref a) (l := l) R ro (by simp [dnOf, hl])
        cases ej
        obtain ⟨c, nk, rfl, h1, h2, r⟩ := keyOk_ok ri hk.1
        refine ⟨g, b, c, l, xs, ys, i, nk, rfl, rfl, D, h1, h2, r, fun u oo ru nd => ?_⟩
        obtain ⟨E, R1⟩ := R.write (ob := .dn (dPutN l i v)) (o' := DN b (oo, storedH xs.2 nk c u)) hm (fun E => by
          obtain ⟨_, _, _, k1, k2⟩ := D.nr.to
          have nr : NR X.K g (upd H b (DN b (oo, storedH xs.2 nk c u))) l xs.2 ys := NR.of D.np.ks D.np.dp D.np.vs (k1.ext R E) (k2.ext R E)
          obtain ⟨ys', nr'⟩ := nr.put h1 h2 (r.ext R E) (rv.ext R E) ru
          obtain ⟨p1, p2, p3, p4, p5⟩ := nr'.to
          have sz : (dPutN l i v).length ≤ sizeLine := by
            have h3 := dPutN_len l i v
            have h4 := line_lt hk.2
            omega
          exact ⟨_, ys', upd_same, ⟨D.np.sys, sz, p1, p2, nd, p3⟩, p4, p5⟩)
        exact q _ E R1
      · cases e
    · cases e
  · cases e
theorem gg_subN {o i : Expr} {dx di : Den} {pos : Pos} (hu : X.A.units + 200 < cLine) (hw : X.w = TheWorld.w) (ho : GE X W o dx) (hi : GE X W i di)
    (ha : ∀ v, assign (.Subscript o i pos) X.env v = (do
      let ov ← holding [v] (eval o X.env)
      let iv ← holding [v, ov] (eval i X.env)
      standAt pos
      holding [v, ov, iv] (setItem ov iv v)
      release [v, ov, iv] []) := by intro _; rfl) : GG X W (.Subscript o i pos) (gSubN dx di) := by
  refine PG.imp (pg_sub ho hi (set_dn hu hw) ha) fun y σ H Q ⟨g, l, h, v, S, R, r, A⟩ => ?_
  refine tG_T S R A fun x h1 g1 H1 x' E S1 R1 r1 A1 => ?_
  refine tG_T S1 R1 A1 fun z h2 g2 H2 z' E2 S2 R2 r2 A2 => ?_
  split at A2
  · rename_i h3 e
    exact vSetN_ok R2 (r1.ext R1 E2) r2 ((r.ext R E).ext R1 E2) e fun H' E3 R3 => A2 g2 H' σ E3 R3 (S2.ext R2 E3)
  · exact A2.elim
/-- {} -/
def dNewN : Den := fun _ h => .ok (.ref h.length) (h ++ [.dn []])
def dict0 : Obj := { cls := .type "dict", data := .dict #[] }
theorem dn_empty {P : Program} {w : World} {H : Hp} (hp : Heap) : ObjOk P w H (hp.push { cls := .type "dict", data := .dict #[] }) hp.objs.size (DN hp.objs.size (dict0, [])) :=
  ⟨⟨#[], 0, Heap.get?_push_size _ rfl, ⟨rfl, rfl, rfl⟩, rfl, rfl⟩, ⟨_, Heap.get?_push_size _ rfl⟩, fun p q ⟨es, ep, a1, a2, a3, a4⟩ st => ⟨es, ep, st _ a1, a2, a3, a4⟩⟩
def tNewN : TE := fun _ H Q => ∀ p, H p = none → (p == sysModules) = false → Q (.ref p) (upd H p (DN p (dict0, [])))
theorem pe_newN {pos : Pos} : PE X (.Dict [] [] pos) tNewN := ⟨fun pins s σ H Q I h =>
  wpAny_Dict_empty ⟨.ref s.heap.objs.size, _, I.laid (a := s.heap.objs.size) (o := DN s.heap.objs.size (dict0, [])) (t' := s.toks) (fun _ _ q => Heap.get?_push_of_some _ q) (Nat.le_refl _) (dn_empty s.heap), rfl, h _ (I.hok.fresh (Nat.le_refl _)) (beq_eq_false_iff_ne.mpr (Ne.symm (Nat.ne_of_lt I.big)))⟩⟩
theorem NP.nil {a : Addr} (h : (a == sysModules) = false) : NP a [] [] [] := ⟨h, Nat.zero_le _, rfl, by simp, List.nodup_nil, .nil⟩
theorem ge_newN {pos : Pos} : GE X W (.Dict [] [] pos) dNewN := PE.imp pe_newN fun σ H Q ⟨g, l, h, S, R, A⟩ p np ns => push_ok R A np fun E => ⟨(dict0, []), [], upd_same, NP.nil ns, VRs.nil, VRs.nil⟩
end
end GH
set_option Elab.async false
set_option linter.all false
set_option maxRecDepth 100000
set_option maxHeartbeats 1000000
set_option autoImplicit false
/-! dict comprehensions whose keys are tuples. -/
namespace GH
open PySem PySem.Spec PyProof.Rows L2
variable [TheWorld]
section
variable {X : Cx}
theorem dictSet_dn {pins : List (Addr × Obj)} {σ : L2.St} {H : Hp} {s : Shared} {E : Value → Shared → Prop} {D : Addr} {y z : V} {ku zu : Value} {P : Hp → Prop} {Q : Unit → Shared → Prop} (hu : X.A.units + 200 < cLine) (hw : X.w = TheWorld.w)
    (I : Inv X pins σ H s) (ry : RelV y ku) (rz : RelV z zu) (p : rSetN X.K (.ref D) y z H P) (kk : ∀ H' s', P H' → Inv X pins σ H' s' → Q () s') : wpAny (model X.prog X.w) X.A (dictSet D ku zu) Q E s := by
  obtain ⟨g, a, b, l, xs, ys, k, nk, ea, rfl, d, hk, hd, rk, q⟩ := p
  injection ea with ea
  subst ea
  obtain rfl : ku = Value.ref b := ry
  have sz : xs.2.length ≤ sizeLine := by rw [d.len]; exact d.np.sz
  refine wpAny_dictSet_heap (hsz := sz) (knd := nestedKind X.prog X.w) (show X.A.units + 8 < cLine by omega) ⟨keyN_is I hk rk rfl, hd⟩ (dn_of I hw d.at_ d.np.nd d.nr) fun h' dd sb => ?_
  have nd : ((storedH xs.2 nk b zu).map (·.1)).Nodup := let ⟨_, _, _, _, _, _, _, _, n⟩ := dd; n
  obtain ⟨o, there, new⟩ := dn_new (H' := fun o => upd H D (DN D (o, storedH xs.2 nk b zu))) hw dd
  exact kk _ _ (q zu o rz nd) (d_write I (by rw [d.at_]; exact True.intro) sb ⟨o, there⟩ new)
/-- what a turn's key and value do -/
def tKvN (K : PySem.W.Frag) (tt : TT) (tk tv : TE) (D : Addr) (Nx : Hp → Prop) (σ : L2.St) (H : Hp) : Prop := tt σ H fun b H3 => if b = true then tk σ H3 (fun y H4 => tv σ H4 fun z H5 => rSetN K (.ref D) y z H5 Nx) else Nx H3
def tDcN (K : PySem.W.Frag) (wi : TI) (g : TG) (tt : TT) (tk tv : TE) (vs : List Nat) : TE := fun σ H Q => wi σ H fun J H1 => ∀ D, H1 D = none → (D == sysModules) = false → ∃ W : Nat → Nat → Hp → Prop, (∃ m, W 0 m (upd H1 D (DN D (dict0, [])))) ∧
  ∀ i m H, W i m H → (J.stop i H ∧ Q (.ref D) H) ∨ (J.go i H ∧ ∃ Nx : Hp → Prop, (∀ H', Nx H' → ∃ m', m' < m ∧ W (i + 1) m' H') ∧ ∀ x H', J.yld i H x H' → g x (wipe σ vs) H' fun σ2 H2 => wipe σ2 vs = wipe σ vs ∧ tKvN K tt tk tv D Nx σ2 H2)
theorem pe_dcN {kx vx tg iter : Expr} {ifs : List Expr} {scope : Scope} {own : List (Str × Nat)} {pos : Pos} {wi : TI} {g : TG} {tt : TT} {tk tv : TE} (hu : X.A.units + 200 < cLine) (hw : X.w = TheWorld.w) (hc : X.calm = true) (hN : X.N.Nodup) (hi : PI X tg iter wi) (ok : BlkOk X.N X.env.scope scope own)
    (hg : ∀ (s : Shared) (H : Hp) (C : Addr) (cl : List (Str × Addr)) (fp : List Addr), PG (X.blk s H scope (compEnvC scope cl C X.env) fp) tg g)
    (ht : ∀ (s : Shared) (H : Hp) (C : Addr) (cl : List (Str × Addr)) (fp : List Addr), PTs (X.blk s H scope (compEnvC scope cl C X.env) fp) ifs tt)
    (hk : ∀ (s : Shared) (H : Hp) (C : Addr) (cl : List (Str × Addr)) (fp : List Addr), PE (X.blk s H scope (compEnvC scope cl C X.env) fp) kx tk)
    (he : ∀ (s : Shared) (H : Hp) (C : Addr) (cl : List (Str × Addr)) (fp : List Addr), PE (X.blk s H scope (compEnvC scope cl C X.env) fp) vx tv) (hs : ∀ x, foldedSetIterable iter X.env x = pure x) :
    PE X (.DictComp kx vx [⟨tg, iter, ifs, 0⟩] scope pos) (tDcN X.K wi g tt tk tv (own.map (·.2))) := by
  refine ⟨fun pins s σ H Q I h => ?_⟩
  rw [arm_eval_DictComp]
  have cells : ∀ y ∈ scope.names, y.2 = .free → ∃ c, X.env.cells.lookup y.1 = some c := by
    intro y hy e
    exact (ok.free y hy e).elim (fun k => I.ok.has _ (.inl k)) fun k => I.ok.has _ (.inr k)
  refine wpAny_comprehension_free (use := none) rfl hs (closure_ok cells) ok.kind (fun y hy e => by rw [ok.uniq y hy, e]) (thn (hi.run pins s σ H _ I h) fun xv s1 hx => thn hx fun itv s2 got => ?_)
  obtain ⟨it, fp, tn, J, H2, rfl, I2, T, st2, f2, q⟩ := got
  refine wpAny_newObj_type (newEnv_comp ?_)
  obtain ⟨D, eD⟩ : ∃ D, s2.heap.objs.size = D := ⟨_, rfl⟩
  rw [eD]
  have big : (D == sysModules) = false := by rw [← eD]; exact beq_eq_false_iff_ne.mpr (Ne.symm (Nat.ne_of_lt I2.big))
  have nD : H2 D = none := I2.hok.fresh (Nat.le_of_eq eD)
  obtain ⟨W, ⟨m0, w0⟩, turn⟩ := q D nD big
  have laid : Inv X pins σ (upd H2 D (DN D (dict0, []))) { s2 with heap := s2.heap.push { cls := .type "dict", data := .dict #[] } } := by
    rw [← eD]
    exact I2.laid (t' := s2.toks) (fun b o e => Heap.get?_push_of_some _ e) (Nat.le_refl _) (dn_empty s2.heap)
  obtain ⟨s3, e3⟩ : ∃ s3 : Shared, { s2 with heap := s2.heap.push { cls := .type "dict", data := .dict #[] } } = s3 := ⟨_, rfl⟩
  have hp3 : s3.heap = s2.heap.push { cls := .type "dict", data := .dict #[] } := by rw [← e3]
  rw [e3] at laid
  have low : ∀ b ∈ fp, b < s2.heap.objs.size := by
    intro b hb
    obtain ⟨o, e, _⟩ := T.obj _ _ st2 b hb
    exact Heap.lt_size e
  have foot : ∀ b ∈ fp, FpOk X pins (upd H2 D (DN D (dict0, []))) b ∧ b < s3.heap.objs.size := by
    intro b hb
    have lt := low b hb
    have ne : b ≠ D := by rw [← eD]; exact Nat.ne_of_lt lt
    exact ⟨⟨(upd_ne ne).trans (f2 b hb).1, (f2 b hb).2⟩, by rw [hp3, Heap.size_push]; exact Nat.lt_succ_of_lt lt⟩
  have st3 : tn 0 s3.heap := T.keep _ _ _ st2 fun b _ o e => by rw [hp3]; exact Heap.get?_push_of_some _ e
  have begun := block_start laid ok hN foot
  obtain ⟨H3, eH3⟩ : ∃ H3, upd H2 D (DN D (dict0, [])) = H3 := ⟨_, rfl⟩
  rw [eH3] at laid begun w0 foot
  let cl := cellsFrom (s3.heap.objs.size + 1) scope.names (cloFrom X.env.cells scope.names [])
  have pg := hg s3 H3 s3.heap.objs.size cl fp
  have pt := ht s3 H3 s3.heap.objs.size cl fp
  have pk := hk s3 H3 s3.heap.objs.size cl fp
  have pv := he s3 H3 s3.heap.objs.size cl fp
  rw [e3]
  obtain ⟨ce, eCe⟩ : ∃ ce, compEnvC scope cl s3.heap.objs.size X.env = ce := ⟨_, rfl⟩
  have ceL : ce.locals = s3.heap.objs.size := by rw [← eCe]; rfl
  change L2.Inv (X.blk s3 H3 scope (compEnvC scope cl s3.heap.objs.size X.env) fp) _ _ _ _ at begun
  rw [eCe] at begun pg pt pk pv
  let B := X.blk s3 H3 scope ce fp
  let τ := wipe σ (own.map (·.2))
  have clean : ∀ {σ' : L2.St} {H' : Hp} {s' : Shared}, Inv B [] σ' H' s' → (∀ b ∈ fp, H' b = none) → ∀ b ∈ fp, FpOk B [] H' b := by
    intro σ' H' s' I' hn b hb
    obtain ⟨e1, e2⟩ := I'.ok.exf b hb
    exact ⟨hn b hb, e1, I'.ok.exfs b hb, .inl hb, fun x c e => e2 x c e, fun p hp => by cases hp⟩
  show codeAny (model X.prog X.w) X.A (.compStart (.DictComp kx vx [⟨tg, iter, ifs, 0⟩] scope pos) 0 (.ref it) (.ref D) (compEnvC scope cl s3.heap.objs.size X.env)) _ _
  rw [eCe]
  obtain ⟨s4, e4⟩ : ∃ s4 : Shared, { s3 with heap := pushCells (s3.heap.push { cls := .type "dict", data := .dict #[] }) scope.names } = s4 := ⟨_, rfl⟩
  rw [e4] at begun
  have st4 : tn 0 s4.heap := T.keep _ _ _ st3 fun b _ o e => by rw [← e4]; exact pushCells_keeps _ _ _ _ (Heap.get?_push_of_some _ e)
  have turns : codeAny (model X.prog X.w) X.A (.compLoop (.DictComp kx vx [⟨tg, iter, ifs, 0⟩] scope pos) 0 (.ref it) (.ref D) ce) (compPost (model X.prog X.w) X.A X.xe none (EP X pins σ Q) (.ref D) s3.heap.objs.size) s4 := by
    refine compLoop_anyD (fun n s' => ∃ i H', Inv B [] τ H' s' ∧ tn i s'.heap ∧ (∀ b ∈ fp, H' b = none) ∧ W i n H') ?_ m0 ⟨0, H3, begun, st4, fun b hb => (foot b hb).1.1, w0⟩
    rintro n s5 ⟨i, H5, I5, st5, n5, w5⟩
    rcases turn i n H5 w5 with ⟨stop, end_⟩ | ⟨go, Nx, less, step⟩
    · refine thnF (T.done B rfl rfl rfl hc i [] s5 τ H5 (fun _ _ => False) I5 (clean I5 n5) st5 stop) fun r s6 ⟨hr, I6⟩ => ?_
      subst hr
      have I7 : Inv X pins σ H5 s6 := laid.call' (ch := fp) I6.os I6.base I6.hok I6.bare fun b hb =>
        let ⟨_, a1, a2, a3, a4, a5⟩ := (foot b hb).1
        ⟨a3, a1, a4, a5⟩
      obtain ⟨m, ns, _⟩ := I6.loc
      have free : H5 ce.locals = none := I6.free
      have ns : s6.heap.Ns ce.locals m := ns
      rw [ceL] at free ns
      refine ⟨m, ns, fun h'' sb => ?_⟩
      obtain ⟨f0, f1, f2, f3, f4, f5⟩ := laid.fpOk (Nat.le_refl _) free
      exact ⟨.ref D, H5, I7.turned (t' := s6.toks) (fun b o hb e => (sb.2 b hb).trans e) f0 f1 f3 f4 f5, rfl, end_⟩
    · refine thnF (T.item B rfl rfl rfl hc i [] s5 τ H5 (fun _ _ => False) I5 (clean I5 n5) st5 go) fun r s6 ⟨u, hr, h6⟩ => ?_
      subst hr
      refine thnF h6 fun _ s7 ⟨x, H7, I7, r7, y7, st7, n7⟩ => ?_
      have p7 := I7.pinned (clean I7 n7) (T.obj _ _ st7)
      refine thnF (pg.run _ s7 _ H7 x u _ p7 r7 (step x H7 y7)) fun _ s8 ⟨σ8, H8, I8, same, q8⟩ => ?_
      refine thnF (pt.run _ s8 σ8 H8 _ I8 q8) fun b s9 ⟨H9, I9, q9⟩ => ?_
      have last : ∀ (H' : Hp) (s' : Shared), Nx H' → Inv B ([] ++ pinsAt fp s7.heap) σ8 H' s' → ∃ m, m < n ∧ ∃ i H', Inv B [] τ H' s' ∧ tn i s'.heap ∧ (∀ b ∈ fp, H' b = none) ∧ W i m H' := by
        intro H' s' nx I'
        obtain ⟨m', lt, w'⟩ := less H' nx
        have kept : ∀ b ∈ fp, ∀ o, s7.heap.get? b = some o → s'.heap.get? b = some o ∧ H' b = none := by
          intro b hb o e
          have z := I'.pin (b, o) (List.mem_append_right _ (List.mem_append_right _ (mem_pinsAt hb e)))
          exact ⟨z.1, z.2.1⟩
        have len : τ.length = σ8.length := by
          have q := congrArg List.length same
          rw [wipe_length] at q
          exact q.symm
        have I'' := (I'.unpinned (pins := [])).weak len fun j v e => by
          have e : τ[j]? = some (some v) := e
          rw [show τ = wipe σ8 (own.map (·.2)) from same.symm] at e
          exact (wipe_some e).1
        refine ⟨m', lt, i + 1, H', I'', T.keep _ _ _ st7 fun b hb o e => (kept b hb o e).1, fun b hb => ?_, w'⟩
        obtain ⟨o, e, _⟩ := T.obj _ _ st7 b hb
        exact (kept b hb o e).2
      cases b with
      | false =>
        rw [if_neg Bool.false_ne_true] at q9 ⊢
        exact last _ _ q9 I9
      | true =>
        rw [if_pos rfl] at q9 ⊢
        refine thnF (pk.run _ s9 σ8 H9 _ I9 q9) fun z s10 ⟨yk, H10, I10, r10, q10⟩ => ?_
        refine thnF (pv.run _ s10 σ8 H10 _ I10 q10) fun z2 s11 ⟨yv, H11, I11, r11, w11⟩ => ?_
        exact dictSet_dn (X := B) hu hw I11 r10 r11 w11 last
  subst e4
  exact codeAny_compStart_dict turns (T.self X.A 0 _ _ _ st4 turns)
end
open Classical in
noncomputable def dcNL (t : Tg) (c : DenG Bool) (ek e : Den) (s : Src) : List Val → List (Val × Val) → Loc → Hv → Res (List (Val × Val))
  | [], acc, _, h => if srcOk s h then .ok acc h else .fail
  | x :: r, acc, l, h => if srcOk s h then (match t x l h with
    | .ok l1 h1 => (match c l1 h1 with
      | .ok b h2 => if b = true then (match ek l1 h2 with
        | .ok k h3 => (match e l1 h3 with
          | .ok v h4 => if keyOk k then dcNL t c ek e s r (dPutN acc k v) l h4 else .fail
          | _ => .fail)
        | _ => .fail) else dcNL t c ek e s r acc l h2
      | _ => .fail)
    | _ => .fail) else .fail
def finN (ys : List (Val × Val)) (h : Hv) : Res Val := .ok (.ref h.length) (h ++ [.dn ys])
noncomputable def dDcN (vs : List Nat) (di : DenG Src) (t : Tg) (c : DenG Bool) (ek e : Den) : Den := fun l h => (di l h).bind fun s h1 => (dcNL t c ek e s s.1 [] (wipeL l vs) h1).bind finN
section
variable {K : PySem.W.Frag}
theorem MutX.dn {D : Addr} {xs : NX} : MutX D (DN D xs) := ⟨xs, rfl⟩
theorem NR.reset {g : Gh} {H : Hp} {D : Addr} {ds zs : HO} (hD : D ∈ g.r) (e0 : H D = some ds) (mu : MutX D ds) {l : List (Val × Val)} {xs : List NE} {ys : List V} (r : NR K g H l xs ys) : NR K g (upd H D zs) l xs ys := by
  obtain ⟨a1, a2, a3, a4, a5⟩ := r.to
  exact NR.of a1 a2 a3 (a4.reset hD e0 mu) (a5.reset hD e0 mu)
theorem NR.ext {g g' : Gh} {H H' : Hp} {h : Hv} (R : HR K g H h) (E : Ext g H g' H') {l : List (Val × Val)} {xs : List NE} {ys : List V} (r : NR K g H l xs ys) : NR K g' H' l xs ys := by
  obtain ⟨a1, a2, a3, a4, a5⟩ := r.to
  exact NR.of a1 a2 a3 (a4.ext R E) (a5.ext R E)
theorem finN_ok {W : WX} {σ : L2.St} {g1 g2 : Gh} {H1 H : Hp} {h h1 : Hv} {Q : VK} {D : Addr} {ys : List (Val × Val)} {xs : NX} {zs : List V} (nD : H1 D = none) (R1 : HR K g1 H1 h1) (E : Ext ⟨g1.m, D :: g1.r⟩ (upd H1 D (DN D (dict0, []))) g2 (upd H D (DN D (dict0, [])))) (R2 : HR K g2 H h) (d : DnAt K g2 H D ys xs zs)
    (A : After K W (vr K) σ g1 H1 Q (.ok (.ref h.length) (h ++ [.dn ys]))) : Q (.ref D) H := by
  have hD : D ∈ g2.r := by rw [E.r]; exact List.mem_cons_self ..
  have R3 := R2.reset (zs := DN D (dict0, [])) hD d.at_ MutX.dn MutX.dn
  have q := promote (o1 := DN D xs) (ob := .dn ys) R1 nD E R3 MutX.dn (fun hm ho => by
    obtain ⟨_, _, _, a4, a5⟩ := d.nr.to
    rw [upd_upd, upd_self' d.at_]
    exact ⟨xs, zs, d.at_, d.np, a4.own hm ho, a5.own hm ho⟩) A (fun ps z => by cases z)
  rw [upd_upd, upd_self' d.at_] at q
  exact q
theorem srcOk_of {t : Tg} {c : DenG Bool} {ek e : Den} {s : Src} {l : Loc} {h : Hv} {K' : PySem.W.Frag} {W : WX} {σ : L2.St} {g : Gh} {H : Hp} {Q : VK} (A : After K' W (vr K') σ g H Q ((dcNL t c ek e s s.1 [] l h).bind finN)) : srcOk s h := by
  cases hs1 : s.1 with
  | nil =>
    rw [hs1] at A
    simp only [dcNL] at A
    split at A
    · assumption
    · exact A.elim
  | cons x r =>
    rw [hs1] at A
    simp only [dcNL] at A
    split at A
    · assumption
    · exact A.elim
theorem keyOk_K {g : Gh} {H : Hp} {u : Val} {y : V} (r : VR K g H u y) (e : keyOk u = true) : ∃ b k, y = .ref b ∧ keyN u = some k ∧ k.depth ≤ 8 ∧ VR K g H u (.ref b) := by
  cases u with
  | tup l =>
    unfold keyOk at e
    cases q : keyN (.tup l) with
    | none => simp [q] at e
    | some k =>
      simp [q] at e
      have r' := r
      simp only [VR] at r
      obtain ⟨a, xs, rfl, _⟩ := r
      exact ⟨a, k, rfl, rfl, e, r'⟩
  | _ => simp [keyOk] at e
theorem dcN_red {W : WX} {vs : List Nat} {di : DenG Src} {t : Tg} {c : DenG Bool} {ek e : Den} {σ : L2.St} {H : Hp} {Q : VK} (z : tG K W (vr K) (dDcN vs di t c ek e) σ H Q) :
    tDcN K (tI K W di) (tTc K vs t) (tG K W0 br c) (tG K W0 (vr K) ek) (tG K W0 (vr K) e) vs σ H Q := by
  obtain ⟨g, l, h, S, R, A⟩ := z
  refine ⟨g, l, h, S, R, ?_⟩
  unfold dDcN at A
  unfold AfterI
  cases ed : di l h with
  | exc x h1 => rw [ed] at A; exact A
  | fail => rw [ed] at A; exact A
  | ok s h1 =>
    rw [ed] at A
    simp only [Res.bind_ok] at A
    refine ⟨srcOk_of A, fun g1 H1 J E1 R1 hz sv D nD sD => ?_⟩
    have A := After.ext E1 A
    have S1 := S.ext R E1
    obtain ⟨ES, RD⟩ := R1.aside (o := DN D (dict0, [])) nD MutX.dn
    let Wd : Nat → Hp → Prop := fun i H => ∃ g2 h2 ys xs zs, Ext ⟨g1.m, D :: g1.r⟩ (upd H1 D (DN D (dict0, []))) g2 (upd H D (DN D (dict0, []))) ∧ HR K g2 H h2 ∧ DnAt K g2 H D ys xs zs ∧ ys.length ≤ i ∧ i ≤ s.1.length ∧
      After K W (vr K) σ g1 H1 Q ((dcNL t c ek e s (s.1.drop i) ys (wipeL l vs) h2).bind finN)
    refine ⟨fun i m H => m = s.1.length - i ∧ Wd i H, ⟨s.1.length, by simp, ⟨g1.m, D :: g1.r⟩, h1, [], (dict0, []), [], by rw [upd_upd]; exact Ext.refl, RD, ⟨upd_same, NP.nil sD, True.intro⟩, by simp, Nat.zero_le _, by simpa using A⟩, ?_⟩
    rintro i m H ⟨rfl, g2, h2, ys, xs, zs, E, R2, d, hl, hil, A⟩
    have hDr : D ∈ g2.r := by rw [E.r]; exact List.mem_cons_self ..
    have hDm : D ∉ g2.m := fun z => R2.dis D z hDr
    obtain ⟨tm, em, nm⟩ := E.m
    have em : g2.m = g1.m ++ tm := em
    have nm : ∀ b ∈ tm, Fre H1 b := fun b hb => by
      have q := nm b hb
      have hne : b ≠ D := by
        rintro rfl
        obtain ⟨ps, z⟩ := q _ upd_same
        cases z
      intro o z
      exact q o (by rw [upd_ne hne]; exact z)
    have keep : ∀ b o, H1 b = some o → (∀ ps, o ≠ .tbl ps) → b ∉ g1.m → H b = some o := fun b o e nt hb => by
      have hne := ne_of_none e nD
      have q := E.keepN b o (by rw [upd_ne hne]; exact e) nt hb
      rw [upd_ne hne] at q
      exact q
    have E2S : ExtS g1 H1 g2 H := ⟨⟨tm, em, nm⟩, ⟨[D], E.r, fun b hb => by rw [List.mem_singleton.mp hb]; exact fre_none nD⟩, fun b o e nt hb => keep b o e nt fun z => hb (.inl z)⟩
    have S2 : SR K g2 H (wipeL l vs) (wipe σ vs) := (S1.extS R1 E2S).wipe vs
    cases hd : s.1.drop i with
    | nil =>
      have hle : s.1.length ≤ i := List.drop_eq_nil_iff.mp hd
      rw [hd] at A
      simp only [dcNL] at A
      split at A
      · rename_i ok
        exact .inl ⟨(sv g2 H h2 E2S R2 ok i).2 (Nat.le_antisymm hil hle), finN_ok nD R1 E R2 d A⟩
      · exact A.elim
    | cons v rest =>
      have hlt : i < s.1.length := by
        by_cases q : i < s.1.length
        · exact q
        · rw [List.drop_eq_nil_iff.mpr (by omega)] at hd; cases hd
      have hv : s.1[i]? = some v := by
        have q := congrArg List.head? hd
        rw [List.head?_drop] at q
        simpa using q
      have hr : s.1.drop (i + 1) = rest := by
        have q := congrArg List.tail hd
        rw [List.tail_drop] at q
        simpa using q
      rw [hd] at A
      simp only [dcNL] at A
      split at A
      · rename_i ok
        obtain ⟨go, yl⟩ := (sv g2 H h2 E2S R2 ok i).1 v hv
        refine .inr ⟨go, Wd (i + 1), fun H' q => ⟨s.1.length - (i + 1), by omega, rfl, q⟩, fun x H' y => ?_⟩
        obtain ⟨E3, R3, rx⟩ := yl x H' y
        refine ⟨g2, wipeL l vs, h2, v, S2.ext R2 E3, R3, rx, ?_⟩
        cases et : t v (wipeL l vs) h2 with
        | exc x l1 h1 => rw [et] at A; exact A
        | fail => rw [et] at A; exact A
        | ok l3 h3 =>
          rw [et] at A
          simp only at A
          intro g4 H4 σ4 E4 R4 S4 w4
          refine ⟨w4.trans (wipe_wipe fun _ hu => hu), g4, l3, h3, S4, R4, ?_⟩
          cases ec : c l3 h3 with
          | exc x h1 => rw [ec] at A; exact A.elim
          | fail => rw [ec] at A; exact A.elim
          | ok b h5 =>
            rw [ec] at A
            simp only at A
            intro g5 H5 b' E5 R5 eb
            obtain rfl : b = b' := eb
            have E25 := (E3.trans E4).trans E5
            have dAt : ∀ {g6 : Gh} {H6 : Hp}, Ext g2 H g6 H6 → DnAt K g6 H6 D ys xs zs := fun E6 => ⟨E6.keepN D _ d.at_ (fun ps z => by cases z) hDm, d.np, d.nr.ext R2 E6⟩
            have turn : ∀ {g6 : Gh} {H6 : Hp}, Ext g2 H g6 H6 → Ext ⟨g1.m, D :: g1.r⟩ (upd H1 D (DN D (dict0, []))) g6 (upd H6 D (DN D (dict0, []))) := fun E6 => E.trans (E6.reset hDm d.at_ (fun ps z => by cases z) (fun ps z => by cases z))
            cases b with
            | false =>
              rw [if_neg Bool.false_ne_true] at A ⊢
              exact ⟨g5, h5, ys, xs, zs, turn E25, R5, dAt E25, by omega, hlt, by rw [hr]; exact A⟩
            | true =>
              rw [if_pos rfl] at A ⊢
              refine ⟨g5, l3, h5, S4.ext R4 E5, R5, ?_⟩
              cases ek0 : ek l3 h5 with
              | exc x h1 => rw [ek0] at A; exact A.elim
              | fail => rw [ek0] at A; exact A.elim
              | ok ky h5k =>
                rw [ek0] at A
                simp only at A
                intro g5k H5k kx E5k R5k rk
                refine ⟨g5k, l3, h5k, (S4.ext R4 E5).ext R5 E5k, R5k, ?_⟩
                cases ee : e l3 h5k with
                | exc x h1 => rw [ee] at A; exact A.elim
                | fail => rw [ee] at A; exact A.elim
                | ok y h6 =>
                  rw [ee] at A
                  simp only at A
                  intro g6 H6 xv E6 R6 rv
                  split at A
                  · rename_i hkk
                    have E26 := (E25.trans E5k).trans E6
                    have hD6 : D ∈ g6.r := by rw [E26.r]; exact hDr
                    have d6 := dAt E26
                    obtain ⟨kb, nk, rfl, h1k, h2k, rk6⟩ := keyOk_K (VR.ext R5k E6 rk) hkk
                    refine ⟨g6, D, kb, ys, xs, zs, ky, nk, rfl, rfl, d6, h1k, h2k, rk6, fun u oo ru nd => ?_⟩
                    obtain ⟨zs', nr'⟩ := NR.put h1k h2k (rk6.reset hD6 d6.at_ MutX.dn) (rv.reset hD6 d6.at_ MutX.dn) ru (d6.nr.reset (zs := DN D (oo, storedH xs.2 nk kb u)) hD6 d6.at_ MutX.dn)
                    obtain ⟨p1, p2, p3, p4, p5⟩ := nr'.to
                    have hlen := dPutN_len ys ky y
                    refine ⟨g6, h6, dPutN ys ky y, (oo, storedH xs.2 nk kb u), zs', ?_, R6.reset hD6 d6.at_ MutX.dn MutX.dn, ⟨upd_same, ⟨sD, by omega, p1, p2, nd, p3⟩, nr'⟩, by omega, hlt, by rw [hr]; exact A⟩
                    rw [upd_upd]
                    exact turn E26
                  · exact A.elim
      · exact A.elim
end
section
variable {X : Cx} {W : WX}
theorem ge_dcN {kx vx tg iter : Expr} {ifs : List Expr} {scope : Scope} (own : List (Str × Nat)) {pos : Pos} {di : DenG Src} {t : Tg} {c : DenG Bool} {ek e : Den} (hu : X.A.units + 200 < cLine) (hw : X.w = TheWorld.w) (hc : X.calm = true) (hN : X.N.Nodup) (hi : GI X W tg iter di)
    (hg : ∀ (s : Shared) (H : Hp) (C : Addr) (cl : List (Str × Addr)) (fp : List Addr), GC (X.blk s H scope (compEnvC scope cl C X.env) fp) (own.map (·.2)) tg t) (ht : ∀ (s : Shared) (H : Hp) (C : Addr) (cl : List (Str × Addr)) (fp : List Addr), GTs (X.blk s H scope (compEnvC scope cl C X.env) fp) W0 ifs c)
    (hk : ∀ (s : Shared) (H : Hp) (C : Addr) (cl : List (Str × Addr)) (fp : List Addr), GE (X.blk s H scope (compEnvC scope cl C X.env) fp) W0 kx ek)
    (he : ∀ (s : Shared) (H : Hp) (C : Addr) (cl : List (Str × Addr)) (fp : List Addr), GE (X.blk s H scope (compEnvC scope cl C X.env) fp) W0 vx e) (ok : blkC X.N X.env.scope scope own = true := by first | rfl | decide +kernel) (hs : ∀ x, foldedSetIterable iter X.env x = pure x := by intro _; rfl) :
    GE X W (.DictComp kx vx [⟨tg, iter, ifs, 0⟩] scope pos) (dDcN (own.map (·.2)) di t c ek e) :=
  PE.imp (pe_dcN (g := tTc X.K (own.map fun p : Str × Nat => p.2) t) (tt := tG X.K W0 br c) (tk := tG X.K W0 (vr X.K) ek) (tv := tG X.K W0 (vr X.K) e) hu hw hc hN hi (blkOk_by ok) hg ht hk he hs) fun σ H Q z => dcN_red z
end
end GH
set_option Elab.async false
set_option linter.all false
set_option maxRecDepth 100000
set_option maxHeartbeats 1000000
set_option autoImplicit false
/-! plain Lean: more steps as equations. -/
namespace GH
open PySem
variable [TheWorld]
section
variable {di : DenG Src} {d e : Den} {t : Tg} {b rest : Stm} {l l1 : GH.Loc} {h h1 h2 : Hv} {it : List Val} {i : Nat} {v x y z : Val}
theorem for_eq (e : di l h = .ok (it, none) h1) : sSeq (sFor di t b) rest l h = (forL t b (it, none) it l h1).andThen rest := by
  rw [e_seq, e_for, e, Res.to_ok]
theorem aug_eq {f : Val → Val → Hv → Res Val} (hl : l[i]? = some (some x)) (e : d l h = .ok y h1) (e2 : f x y h1 = .ok z h2) : sSeq (sAug i f d) rest l h = rest (l.set i (some z)) h2 := by
  rw [e_seq]
  simp only [sAug, hl, e, Res.to_ok, e2, SRes.andThen_nx]
theorem mkR_ok {vs : List Val} (e : vs.length ≤ 16777216) : mkRef vs h = .ok (.ref h.length) (h ++ [.lst vs]) := by simp [mkRef, lineN, e]
theorem dv (e : l[i]? = some (some v)) : dVar i l h = .ok v h := by simp [dVar, e]
theorem lev_s (F : Gam → Gam) (k j : Nat) : lev F (k + 1) j = F (lev F k) j := rfl
/-- a loop by what holds behind each part of its items -/
theorem for_ind {α : Type} (V : α → Val) (R : List α → GH.Loc → Hv → Prop) {it : List Val} : ∀ (L pre : List α) (l : GH.Loc) (h : Hv), R pre l h →
    (∀ p x q l h, pre ++ L = p ++ x :: q → R p l h → ∃ l1 h1 l2 h2, t (V x) l h = .ok l1 h1 ∧ b l1 h1 = .nx l2 h2 ∧ R (p ++ [x]) l2 h2) → ∃ l' h', forL t b (it, none) (L.map V) l h = .nx l' h' ∧ R (pre ++ L) l' h'
  | [], pre, l, h, r, _ => ⟨l, h, for_nil, by rw [List.append_nil]; exact r⟩
  | x :: L, pre, l, h, r, step => by
    obtain ⟨l1, h1, l2, h2, e1, e2, r2⟩ := step pre x L l h rfl r
    obtain ⟨l', h', e3, r3⟩ := for_ind V R L (pre ++ [x]) l2 h2 r2 fun p y q l h e => step p y q l h (by rw [← e]; simp)
    refine ⟨l', h', ?_, by simpa using r3⟩
    simp only [List.map_cons, forL, srcOk_none, if_true, e1, e2, SRes.turn_nx]
    simpa using e3
theorem dlc_eq {α : Type} {vs : List Nat} (V G : α → Val) (L : List α) (ed : di l h = .ok (L.map V, none) h) (q : ∀ p ∈ L, ∃ l1, t (V p) (wipeL l vs) h = .ok l1 h ∧ e l1 h = .ok (G p) h) : dLc frozen vs di t dYes e l h = .ok (.lst (L.map G)) h := by
  unfold dLc
  rw [ed, Res.bind_ok, lcL_mapL V G (srcOk_none _ _) L [] q]
  rfl
theorem dlcF_eq {α : Type} {vs : List Nat} {c : DenG Bool} (V G : α → Val) (F : α → Bool) (L : List α) (ed : di l h = .ok (L.map V, none) h) (q : ∀ p ∈ L, ∃ l1, t (V p) (wipeL l vs) h = .ok l1 h ∧ c l1 h = .ok (F p) h ∧ (F p = true → e l1 h = .ok (G p) h)) : dLc frozen vs di t c e l h = .ok (.lst ((L.filter F).map G)) h := by
  unfold dLc
  rw [ed, Res.bind_ok, lcL_filL V F G (srcOk_none _ _) L [] q]
  rfl
theorem rng1_eq {n : Nat} (hn : n ≤ 16777216) : vRange1 (.int (n : Int)) h = .ok ((List.range n).map fun j : Nat => Val.int j, none) h := by
  rw [rng_ok hn, show rangeL 0 n = (List.range n).map fun j : Nat => Val.int j from List.map_congr_left fun j _ => by rw [Int.zero_add]]
theorem vTuple_lst (L : List Val) : vTuple (.lst L) h = .ok (.tup L) h := nrfl rfl
theorem vAll_map {α : Type} (F : α → Bool) (L : List α) : vAll (.lst (L.map fun x => .bl (F x))) h = .ok (.bl (L.all F)) h := by
  have := vAll_bls (L.map F) h
  rw [List.map_map] at this
  simpa [List.all_map, Function.comp_def] using this
end
end GH
set_option Elab.async false
set_option linter.all false
set_option maxRecDepth 100000
set_option maxHeartbeats 1000000
set_option autoImplicit false
/-! plain Lean: dicts with tuples as keys. -/
namespace GH
open PySem
variable [TheWorld]
theorem keysN_ints : ∀ p : List Int, keysN (p.map .int) = some (p.map .num)
  | [] => rfl
  | i :: p => by simp only [List.map_cons, keysN, keyN, keysN_ints p, Option.bind_some, Option.map_some]
theorem keyN_pv (p : List Int) : keyN (pv p) = some (.tup (p.map .num)) := by
  simp only [keyN, keysN_ints, Option.map_some]
theorem num_inj {p q : List Int} (e : p.map NestedKey.num = q.map .num) : p = q := List.map_inj_right (fun _ _ e => by injection e) |>.mp e
theorem kEqN_pv (p q : List Int) : kEqN (pv p) (pv q) = decide (p = q) := by
  unfold kEqN
  rw [keyN_pv, keyN_pv]
  refine decide_eq_decide.mpr ⟨fun e => ?_, fun e => by rw [e]⟩
  injection e with e
  injection e with e
  exact num_inj e
section
variable {l : List (Val × Val)} {k v k2 : Val}
theorem kEqN_iff {a b : Val} : kEqN a b = true ↔ keyN a = keyN b := by unfold kEqN; exact decide_eq_true_iff
theorem dGetN_any : (dGetN l k).isSome = l.any fun p => kEqN p.1 k := by
  unfold dGetN
  rw [Option.isSome_map]
  induction l with
  | nil => rfl
  | cons p l ih =>
    rw [List.find?_cons, List.any_cons, ← ih]
    cases kEqN p.1 k <;> simp
theorem find_map_ne {l : List (Val × Val)} (ne : kEqN k k2 = false) : (l.map fun p => if kEqN p.1 k then (p.1, v) else p).find? (fun p => kEqN p.1 k2) = l.find? fun p => kEqN p.1 k2 := by
  induction l with
  | nil => rfl
  | cons p l ih =>
    rw [List.map_cons]
    by_cases c : kEqN p.1 k = true
    · have c2 : kEqN p.1 k2 = false := by
        rw [← ne]
        unfold kEqN
        rw [kEqN_iff.mp c]
      simp only [c, if_true, List.find?_cons, c2, ih]
    · simp only [c, if_false, List.find?_cons, ih, Bool.false_eq_true]
theorem find_map_eq {l : List (Val × Val)} (a : (l.any fun p => kEqN p.1 k) = true) (eq : kEqN k k2 = true) : ((l.map fun p => if kEqN p.1 k then (p.1, v) else p).find? (fun p => kEqN p.1 k2)).map (·.2) = some v := by
  induction l with
  | nil => simp at a
  | cons p l ih =>
    rw [List.map_cons]
    by_cases c : kEqN p.1 k = true
    · have c2 : kEqN p.1 k2 = true := by rw [kEqN_iff, kEqN_iff.mp c, kEqN_iff.mp eq]
      simp only [c, if_true, List.find?_cons, c2, Option.map_some]
    · have c2 : kEqN p.1 k2 = false := by
        rw [Bool.eq_false_iff]
        intro z
        exact c (by rw [kEqN_iff, kEqN_iff.mp z, kEqN_iff.mp eq])
      simp only [List.any_cons, c, Bool.false_or] at a
      simp only [c, if_false, List.find?_cons, c2, Bool.false_eq_true]
      exact ih a
theorem dGetN_put : dGetN (dPutN l k v) k2 = if kEqN k k2 then some v else dGetN l k2 := by
  unfold dPutN
  by_cases c : (l.any fun p => kEqN p.1 k) = true
  · rw [if_pos c]
    by_cases q : kEqN k k2 = true
    · rw [if_pos q]
      exact find_map_eq c q
    · rw [if_neg q]
      unfold dGetN
      rw [find_map_ne (Bool.eq_false_iff.mpr q)]
  · rw [if_neg c]
    unfold dGetN
    rw [List.find?_append]
    by_cases q : kEqN k k2 = true
    · rw [if_pos q]
      have n : l.find? (fun p => kEqN p.1 k2) = none := by
        rw [List.find?_eq_none]
        intro p hp z
        refine c (List.any_eq_true.mpr ⟨p, hp, ?_⟩)
        rw [kEqN_iff, kEqN_iff.mp z, kEqN_iff.mp q]
      simp [n, q]
    · rw [if_neg q]
      simp [q]
end
/-- what a dict comprehension makes -/
theorem dcN_ind {α : Type} (V K W : α → Val) {t : Tg} {ek e : Den} {s : Src} {l : GH.Loc} {h : Hv} (hs : srcOk s h) : ∀ (L : List α) (acc : List (Val × Val)), (∀ p ∈ L, ∃ l1, t (V p) l h = .ok l1 h ∧ ek l1 h = .ok (K p) h ∧ e l1 h = .ok (W p) h ∧ keyOk (K p) = true) →
    dcNL t dYes ek e s (L.map V) acc l h = .ok (L.foldl (fun a p => dPutN a (K p) (W p)) acc) h
  | [], acc, _ => by simp [dcNL, hs]
  | p :: L, acc, q => by
    obtain ⟨l1, e1, e2, e3, e4⟩ := q p (List.mem_cons_self ..)
    have ih := dcN_ind V K W hs L (dPutN acc (K p) (W p)) fun p hp => q p (List.mem_cons_of_mem _ hp)
    simp only [List.map_cons, dcNL, hs, if_true, e1, e_yes, e2, e3, e4, ih, List.foldl_cons]
theorem dcN_eq {α : Type} {vs : List Nat} (V K W : α → Val) {di : DenG Src} {t : Tg} {ek e : Den} {l : GH.Loc} {h : Hv} (L : List α) (ed : di l h = .ok (L.map V, none) h) (q : ∀ p ∈ L, ∃ l1, t (V p) (wipeL l vs) h = .ok l1 h ∧ ek l1 h = .ok (K p) h ∧ e l1 h = .ok (W p) h ∧ keyOk (K p) = true) :
    dDcN vs di t dYes ek e l h = .ok (.ref h.length) (h ++ [.dn (L.foldl (fun a p => dPutN a (K p) (W p)) [])]) := by
  unfold dDcN
  rw [ed, Res.bind_ok, dcN_ind V K W (srcOk_none _ _) L [] q]
  rfl
theorem enum_map {α : Type} (V : α → Val) (L : List α) : enumL (L.map V) = L.zipIdx.map fun p => .tup [.int (p.2 : Nat), V p.1] := by
  unfold enumL
  rw [List.mapIdx_eq_zipIdx_map, List.zipIdx_map, List.map_map]
  rfl
theorem ixN_eq {i : Nat} {l : List (Val × Val)} {u v : Val} {h : Hv} (e : h[i]? = some (.dn l)) (k : keyOk u = true) (g : dGetN l u = some v) : vIxN (.ref i) u h = .ok v h := by
  simp [vIxN, dnOf, e, k, g]
theorem inN_eq {i : Nat} {l : List (Val × Val)} {u : Val} {h : Hv} (e : h[i]? = some (.dn l)) (k : keyOk u = true) : vInN u (.ref i) h = .ok (.bl (dGetN l u).isSome) h := by
  rw [dGetN_any]
  simp [vInN, isInN, dnOf, e, k]
theorem setN_eq {i : Nat} {l : List (Val × Val)} {u v : Val} {h : Hv} (e : h[i]? = some (.dn l)) (k : keyOk u = true) (n : l.length < 16777216) : vSetN (.ref i) u v h = some (h.set i (.dn (dPutN l u v))) := by
  simp [vSetN, e, k, lineN, n]
theorem asg2_eq {d : Den} {t : Tg} {rest : Stm} {l l1 : GH.Loc} {h h1 h2 : Hv} {v : Val} (e : d l h = .ok v h1) (e2 : t v l h1 = .ok l1 h2) : sSeq (sAsg d t) rest l h = rest l1 h2 := by
  rw [e_seq, e_asg, e, Res.to_ok, e2, TRes.s_ok, SRes.andThen_nx]
end GH
set_option Elab.async false
set_option linter.all false
set_option maxRecDepth 100000
set_option maxHeartbeats 1000000
set_option autoImplicit false
/-! a slice of a list, as a list that is written. -/
namespace GH
open PySem PySem.Spec PyProof.Rows L2
variable [TheWorld]
def vCutM (v : Val) (lo hi : Option Int) (h : Hv) : Res Val := match lstOf h v with
  | some l => .ok (.ref h.length) (h ++ [.lst (cut l lo hi)])
  | none => .fail
def dCutM (d : Den) (lo hi : DO) : Den := fun l h => (d l h).bind fun v h1 => (lo l h1).bind fun a h2 => (hi l h2).bind fun b h3 => vCutM v a b h3
section
variable {X : Cx} {W : WX}
theorem ge_cutM {e : Expr} {d : Den} {lo hi : Option Expr} {dl dh : DO} {pos p2 : Pos} (he : GE X W e d) (hl : GO X W lo dl) (hh : GO X W hi dh) : GE X W (.Subscript e (.Slice lo hi none p2) pos) (dCutM d dl dh) := by
  refine PE.imp (pe_slice (sl_list.or (sl_tupA.or sl_str)) he hl hh) fun σ H Q ⟨g, l, h, S, R, A⟩ => ?_
  refine tG_of S R A fun v h1 g1 H1 x E S1 R1 r1 A1 => ?_
  refine tG_of S1 R1 A1 fun a h2 g2 H2 a' E2 S2 R2 e2 A2 => ?_
  refine tG_of S2 R2 A2 fun b h3 g3 H3 b' E3 S3 R3 e3 A3 => ?_
  obtain rfl : a = a' := e2
  obtain rfl : b = b' := e3
  have r := (r1.ext R1 E2).ext R2 E3
  unfold vCutM at A3
  split at A3
  · rename_i k hk
    obtain ⟨p, xs, rfl, s, rs⟩ := lstOf_ok R3 r hk
    exact .inl ⟨p, xs, rfl, SqL.of s, fun q nq => push_ok R3 A3 nq fun E => ⟨_, upd_same, (rs.cut' a b).ext R3 E⟩⟩
  · exact A3.elim
end
theorem cutM_eq {d : Den} {lo hi : DO} {l : GH.Loc} {h : Hv} {i : Nat} {xs : List Val} {a b : Option Int} (e : d l h = .ok (.ref i) h) (x : h[i]? = some (.lst xs)) (e1 : lo l h = .ok a h) (e2 : hi l h = .ok b h) : dCutM d lo hi l h = .ok (.ref h.length) (h ++ [.lst (cut xs a b)]) := by
  unfold dCutM
  rw [e, Res.bind_ok, e1, Res.bind_ok, e2, Res.bind_ok]
  simp [vCutM, lstOf, x]
end GH
set_option Elab.async false
set_option linter.all false
set_option maxRecDepth 100000
set_option maxHeartbeats 1000000
set_option autoImplicit false
/-! t[::-1] of a tuple. -/
namespace HT
open PySem PySem.Spec PyProof.Rows
section
variable {prog : Program} {w : World} {A : Around} {E : Value → Shared → Prop} {s : Shared}
theorem gh_adjustR (n : Nat) : Builtin.Slice.sliceAdjust none none (-1) (n : Int) = ((n : Int) - 1, -1) := rfl
theorem gh_placesR (n : Nat) : Builtin.Slice.slicePlaces ((n : Int) - 1) (-1) (-1) = n := by
  unfold Builtin.Slice.slicePlaces
  cases n with
  | zero => rfl
  | succ n =>
    simp
    omega
theorem gh_appliedR {sl : Addr} {vl vu vs : Value} {n : Nat} {Q : Int × Int × Nat → Shared → Prop} (hs : s.heap.IsSliceOf sl vl vu vs) (pl : IsPart vl none) (pu : IsPart vu none) (ps : IsPart vs (some (-1)))
    (h : Q ((n : Int) - 1, -1, n) s) : wpAny (model prog w) A (Builtin.Slice.sliceApplied (.ref sl) (pure (n : Int))) Q E s := by
  obtain ⟨os, hos, hcs, hds⟩ := id hs
  unfold Builtin.Slice.sliceApplied Builtin.Slice.sliceFields
  refine wpAny_bind (wpAny_bind (wpAny_field hos hds (x := vl) rfl (wpAny_bind (wpAny_field hos hds (x := vu) rfl (wpAny_bind (wpAny_field hos hds (x := vs) rfl (wpAny_pure ?_)))))))
  refine wpAny_bind (slicePart_ ps ?_)
  show wpAny _ _ (if ((-1 : Int) == 0) = true then _ else _) _ _ s
  rw [if_neg (by decide)]
  refine wpAny_bind (slicePart_ pl (wpAny_bind (slicePart_ pu (wpAny_bind (wpAny_pure ?_)))))
  show wpAny _ _ (match Builtin.Slice.sliceAdjust none none (-1) (n : Int) with | (lo, hi) => pure (lo, (-1 : Int), Builtin.Slice.slicePlaces lo hi (-1))) _ _ s
  rw [gh_adjustR n]
  show wpAny _ _ (pure ((n : Int) - 1, (-1 : Int), Builtin.Slice.slicePlaces ((n : Int) - 1) (-1) (-1))) _ _ s
  rw [gh_placesR]
  exact wpAny_pure h
theorem gh_pick_listR (xs : List Value) : ((List.range xs.length).filterMap fun (m : Nat) => xs[(((xs.length : Nat) : Int) - 1 + (m : Int) * -1).toNat]?) = xs.reverse := by
  have gen : ∀ k, k ≤ xs.length → ((List.range k).filterMap fun (m : Nat) => xs[(((xs.length : Nat) : Int) - 1 + (m : Int) * -1).toNat]?) = (xs.drop (xs.length - k)).reverse := by
    intro k
    induction k with
    | zero => intro _; simp
    | succ k ih =>
      intro hk
      rw [List.range_succ, List.filterMap_append, ih (by omega)]
      have e : (((xs.length : Nat) : Int) - 1 + (k : Int) * -1).toNat = xs.length - (k + 1) := by omega
      have hlt : xs.length - (k + 1) < xs.length := by omega
      simp only [List.filterMap_cons, e, List.getElem?_eq_getElem hlt, List.filterMap_nil]
      have d := List.drop_eq_getElem_cons hlt
      rw [d, show xs.length - (k + 1) + 1 = xs.length - k by omega]
      simp
  rw [gen xs.length (Nat.le_refl _), Nat.sub_self, List.drop_zero]
theorem gh_pickR (xs : Array Value) : ((List.range xs.size).filterMap fun (m : Nat) => xs[((xs.size : Int) - 1 + (m : Int) * -1).toNat]?).toArray = (xs.toList.reverse).toArray := by
  have := gh_pick_listR xs.toList
  simp only [Array.length_toList, Array.getElem?_toList] at this
  rw [this]
theorem gh_getItemR {t sl : Addr} {items : Array Value} {vl vu vs : Value} {Q : Value → Shared → Prop} (ht : IsTup s.heap t items) (hs : s.heap.IsSliceOf sl vl vu vs) (pl : IsPart vl none) (pu : IsPart vu none) (ps : IsPart vs (some (-1)))
    (h : Q (.ref s.heap.objs.size) { s with heap := s.heap.push { cls := .type "tuple", data := .seq (items.toList.reverse).toArray } })
    (hsz : items.size ≤ sizeLine) : wpAny (model prog w) A (getItem (.ref t) (.ref sl)) Q E s := by
  have htake : sizeOk (.seq (items.toList.reverse).toArray) := by
    show (items.toList.reverse).toArray.size ≤ sizeLine
    rw [List.size_toArray, List.length_reverse, Array.length_toList]
    exact hsz
  obtain ⟨os, hos, hcs, hds⟩ := id hs
  have hTs : s.TypeIs (.ref sl) "slice" := ⟨os, hos, hcs⟩
  unfold getItem
  try with_reducible refine wpAny_holding ?_
  first | refine wpAny_bind (wpAny_pure ?_) | skip
  refine wpAny_bind (wpAny_sequenceKey ht.typeIs (by decide) ?_)
  refine wpAny_bind (wpAny_callSpecial?_slot (name := Str.ofString "__getitem__") ht.typeIs PyProof.Rows.slot_tuple_getitem
    (wpAny_call_entry PyProof.Rows.slot_tuple_getitem ht.typeIs entry_tuple_getitem ?_ (args_tuple_getitem _ _)))
  show wpAny _ _ (Builtin.Tuple.tupleItemsOf (.ref t) >>= _) _ _ s
  refine wpAny_bind (tupleItemsOf_ ht ?_)
  refine wpAny_bind (wpAny_typeOf hTs ?_)
  rw [if_pos (by decide)]
  refine wpAny_bind (gh_appliedR hs pl pu ps ?_)
  have hno : ¬ ((((items.size : Int) - 1) == 0 && (-1 : Int) == 1 && items.size == items.size) = true) := by
    intro q
    rw [Bool.and_eq_true, Bool.and_eq_true] at q
    exact absurd (eq_of_beq q.1.2) (by decide)
  show wpAny _ _ (if (((items.size : Int) - 1) == 0 && (-1 : Int) == 1 && items.size == items.size) = true then _ else _) _ _ s
  rw [if_neg hno, gh_pickR]
  first
    | exact wpAny_bind (m := Builtin.Tuple.tupleExact _) (wpAny_newObj_type (wpAny_pure ⟨_, rfl, wpAny_pure h⟩) htake)
    | exact wpAny_bind (m := Builtin.Tuple.tupleExact _) (wpAny_newObj_type (wpAny_bind (wpAny_pure (wpAny_pure ⟨_, rfl, wpAny_pure h⟩))) htake)
    | exact wpAny_bind (wpAny_bind (m := Builtin.Tuple.tupleExact _) (wpAny_newObj_type (wpAny_pure (wpAny_pure ⟨_, rfl, wpAny_pure h⟩)) htake))
    | exact wpAny_bind (wpAny_bind (m := Builtin.Tuple.tupleExact _) (wpAny_newObj_type (wpAny_pure ⟨_, rfl, wpAny_pure h⟩) htake))
end
end HT
namespace GH
open PySem PySem.Spec PyProof.Rows L2
variable [TheWorld]
section
variable {X : Cx} {W : WX}
def vRevT (v : Val) (h : Hv) : Res Val := match v with
  | .tup l => .ok (.tup l.reverse) h
  | _ => .fail
def tRevT (K : PySem.W.Frag) (te : TE) : TE := fun σ H Q => te σ H fun x H1 => ∃ a xs, x = .ref a ∧ SqT K H1 a xs ∧ ∀ p, H1 p = none → Q (.ref p) (upd H1 p (.tup xs.reverse))
theorem pe_revT {e : Expr} {te : TE} {k : Nat} {p1 p2 p3 pos : Pos} (he : PE X e te) : PE X (.Subscript e (.Slice none none (some (.UnaryOp .USub (.Constant (.int 1) k p1) p2)) p3) pos) (tRevT X.K te) := by
  refine ⟨fun pins s σ H Q I h => ?_⟩
  refine Subscript_ (thn (he.run pins s σ H _ I h) fun v s1 ⟨x, H1, I1, r1, q1⟩ => ?_)
  obtain ⟨a, xs, ex, hx, q⟩ := q1
  subst ex
  cases r1
  have hst : PO X (some (.UnaryOp .USub (.Constant (.int 1) k p1) p2)) (tPart (tUn (rU fun i => .int (-i)) (tC (.int 1)))) := po_some (pe_un un_neg pe_int)
  refine wpAny_Slice (thn (po_none.run pins s1 σ H1 (fun o H2 => o = none ∧ H2 = H1) I1 ⟨rfl, rfl⟩) fun vl s2 ⟨l, H2, I2, pl, el, e2⟩ => ?_)
  subst el e2
  refine thn (po_none.run pins s2 σ H2 (fun o H3 => o = none ∧ H3 = H2) I2 ⟨rfl, rfl⟩) fun vu s3 ⟨u, H3, I3, pu, eu, e3⟩ => ?_
  subst eu e3
  refine thn (hst.run pins s3 σ H3 (fun o H4 => o = some (-1) ∧ H4 = H3) I3 ⟨1, rfl, -1, rfl, rfl, rfl⟩) fun vs s4 ⟨o, H4, I4, ps, eo, e4⟩ => ?_
  subst eo e4
  have I5 : Inv X pins σ H4 { s4 with heap := s4.heap.push { cls := .type "slice", data := .fields #[vl, vu, vs] } } := I4.kept (t' := s4.toks) fun b ob q => Heap.get?_push_of_some _ q
  obtain ⟨its, r, ht, hz⟩ := I5.tuple hx
  have hlen := r.length
  refine tail_any (ops := [.ref a, .ref s4.heap.objs.size]) ht.typeIs (PyProof.Rows.slot_tuple_getitem.lookup) ?_ (by with_unfolding_all rfl)
  refine HT.gh_getItemR ht (Heap.IsSliceOf.new _ vl vu vs) pl pu ps ?_ (by rw [List.size_toArray]; omega)
  refine ⟨.ref _, _, I5.laid (t' := s4.toks) (o := .tup xs.reverse) (fun b ob q => Heap.get?_push_of_some _ q) (Nat.le_refl _) ?_, rfl, q _ (I5.hok.fresh (Nat.le_refl _))⟩
  exact ⟨by rw [List.length_reverse]; omega, _, r.reverse, IsTup.new _ _⟩
theorem ge_revT {e : Expr} {d : Den} {k : Nat} {p1 p2 p3 pos : Pos} (he : GE X W e d) : GE X W (.Subscript e (.Slice none none (some (.UnaryOp .USub (.Constant (.int 1) k p1) p2)) p3) pos) (dFn vRevT d) := by
  refine PE.imp (pe_revT he) fun σ H Q ⟨g, l, h, S, R, A⟩ => ?_
  refine tG_of S R A fun v h1 g1 H1 x E S1 R1 r1 A1 => ?_
  unfold vRevT at A1
  split at A1
  · have r1 : VR X.K g1 H1 (.tup _) x := r1
    simp only [VR] at r1
    obtain ⟨a, xs, rfl, hq, rs⟩ := r1
    refine ⟨a, xs, rfl, hq, fun p np => ?_⟩
    obtain ⟨E4, R4⟩ := R1.grow (o := .tup xs.reverse) np
    refine A1 g1 _ (.ref p) E4 R4 ?_
    simp only [VR]
    exact ⟨p, _, rfl, SqT.of upd_same, (rs.reverse).ext R1 E4⟩
  · exact A1.elim
end
end GH
set_option Elab.async false
set_option linter.all false
set_option maxRecDepth 100000
set_option maxHeartbeats 1000000
set_option autoImplicit false
/-! a dict that an expression hands over and nobody else holds: walked, asked. -/
namespace GH
open PySem PySem.Spec PyProof.Rows L2
variable [TheWorld]
def low2 (n : Nat) (l : List (Val × Val)) : Bool := belows n (l.map (·.1)) && belows n (l.map (·.2))
open Classical in
noncomputable def dTemp (d : Den) : DenG (List (Val × Val)) := fun l h => match d l h with
  | .ok v h' => (match v with
    | .ref i => if h.length ≤ i ∧ kept h.length h h' then (match h'[i]? with
      | some (.dn xs) => if low2 h.length xs = true then .ok xs (h'.take h.length) else .fail
      | _ => .fail) else .fail
    | _ => .fail)
  | .exc e h' => .exc e h'
  | .fail => .fail
abbrev dnr (K : PySem.W.Frag) : Gh → Hp → List (Val × Val) → V → Prop := fun g H l x => ∃ a xs ys, x = .ref a ∧ ¬ g.own a ∧ DnAt K g H a l xs ys
section
variable {K : PySem.W.Frag} {W : WX} {σ : L2.St} {H : Hp} {Q : VK}
/-- what was there keeps, the rest is forgotten -/
theorem cut_back {g g' : Gh} {H0 : Hp} {h h' : Hv} (R : HR K g H0 h) (X : Ext g H0 g' H) (R' : HR K g' H h') (kp : kept h.length h h') : Ext g H0 g H ∧ HR K g H (h'.take h.length) := by
  obtain ⟨t, hm, nt⟩ := X.m
  have ho : ∀ a, ¬ g'.own a → ¬ g.own a := fun a n z => n (z.elim (fun z => .inl (by rw [hm]; exact List.mem_append_left _ z)) fun z => .inr (by rw [X.r]; exact z))
  refine ⟨⟨⟨[], by simp, by simp⟩, rfl, X.keepN, X.there⟩, ⟨?_, R.nd, R.dis, fun a ha => R'.al a (by rw [X.r]; exact ha), fun i o a e1 e2 => ?_⟩⟩
  · rw [List.length_take, Nat.min_eq_left kp.1]; exact R.len
  · have hi : i < h.length := by rw [← R.len]; exact (List.getElem?_eq_some_iff.mp e2).1
    rw [List.getElem?_take_of_lt hi] at e1
    have hq : OR K g' H a o := R'.obj i o a e1 (by rw [hm, List.getElem?_append_left (by rw [R.len]; exact hi)]; exact e2)
    refine OR.cut (n := h.length) R.len.symm hm ho ?_ hq
    rcases kp.2 i hi with z | z
    · rw [z] at e1
      exact (R.obj i o a e1 e2).low R.len.symm
    · exact z o e1
theorem temp_red {d : Den} (z : tG K W (dnr K) (dTemp d) σ H Q) : tG K W (vr K) d σ H Q := by
  obtain ⟨g, l, h, S, R, A⟩ := z
  refine ⟨g, l, h, S, R, ?_⟩
  unfold dTemp at A
  cases ed : d l h with
  | exc e h1 => rw [ed] at A; exact A
  | fail => rw [ed] at A; exact A
  | ok v h1 =>
    rw [ed] at A
    simp only at A
    intro g' H' x E' R' r
    split at A
    · rename_i i
      split at A
      · rename_i c
        split at A
        · rename_i xs hi
          split at A
          · rename_i lw
            obtain ⟨E1, R1⟩ := cut_back R E' R' c.2
            simp only [VR] at r
            obtain ⟨a, rfl, hm⟩ := r
            obtain ⟨ns, ys, e1, p, r1, r2⟩ := ref_at R' hi hm
            obtain ⟨t, em, _⟩ := E'.m
            have ho : ∀ a, ¬ g'.own a → ¬ g.own a := fun a n z => n (z.elim (fun z => .inl (by rw [em]; exact List.mem_append_left _ z)) fun z => .inr (by rw [E'.r]; exact z))
            have lw := Bool.and_eq_true_iff.mp lw
            refine A g H' (.ref a) E1 R1 ⟨a, ns, ys, rfl, ?_, e1, p, NR.of p.ks p.dp p.vs (r1.cut R.len.symm em ho lw.1) (r2.cut R.len.symm em ho lw.2)⟩
            rintro (z | z)
            · obtain ⟨j, hj, ej⟩ := List.getElem_of_mem z
              have hj' : g'.m[j]? = some a := by
                rw [em, List.getElem?_append_left hj, List.getElem?_eq_getElem hj, ej]
              obtain ⟨l1, p1⟩ := List.getElem?_eq_some_iff.mp hm
              obtain ⟨l2, p2⟩ := List.getElem?_eq_some_iff.mp hj'
              have e3 : i = j := (List.getElem_inj R'.nd).mp (p1.trans p2.symm)
              rw [R.len] at hj
              omega
            · exact R'.dis a (List.mem_of_getElem? hm) (by rw [E'.r]; exact z)
          · exact A.elim
        · exact A.elim
      · exact A.elim
    · exact A.elim
end
/-! ### for k in the dict -/
def Itn (a : Addr) (xs : NX) : It := ⟨fun i H => H a = some (DN a xs) ∧ i < xs.2.length, fun i H x H' => H' = H ∧ ∃ e, xs.2[i]? = some e ∧ x = .ref e.2.1, fun i H => H a = some (DN a xs) ∧ xs.2.length ≤ i⟩
section
variable {X : Cx} {pins : List (Addr × Obj)} {σ : L2.St} {H : Hp} {s : Shared} {a : Addr} {xs : NX}
theorem dn_raw (I : Inv X pins σ H s) (e : H a = some (DN a xs)) : ∃ (es : Array DictEntry) (ep : Nat), s.heap.get? a = some xs.1 ∧ xs.1.ExactDict ∧ xs.1.data = .dict es ep ∧ es.size = xs.2.length ∧ ∀ (i : Nat) (x : NE), xs.2[i]? = some x → ∃ en : DictEntry, es[i]? = some en ∧ en.key = Value.ref x.2.1 := by
  obtain ⟨es, ep, h1, h2, h3, h4⟩ := (I.hok a _ e).1
  refine ⟨es, ep, h1, h2, h3, ?_, fun i x hx => ?_⟩
  · have := congrArg List.length h4
    simpa using this
  · refine ⟨entN x, ?_, rfl⟩
    rw [← Array.getElem?_toList, h4, List.getElem?_map, hx]
    rfl
theorem turn_dn {P : Program} {w : World} {K : PySem.W.Frag} {tg : Expr} (it : Addr) {es : Array DictEntry} {ep : Nat} (hod : xs.1.data = .dict es ep) : Turn P w K tg (Itn a xs) [it] it (fun i h => h.IsKeyIter it a i xs.2.length ep) where
  mem := by simp
  obj := fun i h st b hb => by
    rw [List.mem_singleton.mp hb]
    obtain ⟨oi, e, c, dd⟩ := st
    exact ⟨oi, e, fun v z => by rw [dd] at z; cases z⟩
  keep := fun i h h' st k => st.at fun oi e => k it (by simp) oi e
  item := by
    intro X hP hw hK hc i pins s σ H E I hf st hg
    subst hP hw hK
    obtain ⟨hd, hi⟩ := hg
    obtain ⟨f0, f1, f2, f3, f4, f5⟩ := hf it (by simp)
    obtain ⟨es', ep', hgd, hx, hdt, hsz, ent⟩ := dn_raw I hd
    obtain ⟨rfl, rfl⟩ := dict_ep hod hdt
    obtain ⟨e, he⟩ : ∃ e, xs.2[i]? = some e := ⟨_, List.getElem?_eq_getElem hi⟩
    obtain ⟨en, hen, hkey⟩ := ent i e he
    refine next_key_item st hgd hdt hsz hen fun h' st' sb => ?_
    have I1 : Inv X pins σ H { s with heap := h' } := I.turned (t' := s.toks) (fun b ob hb e => (sb.2 b hb).trans e) f0 f1 f3 f4 f5
    obtain ⟨oi, eo, c, dd⟩ := id st'
    exact ⟨en.key, rfl, go_of (s := { s with heap := h' }) eo c dd (by decide) ⟨.ref e.2.1, H, I1, hkey, ⟨rfl, e, he, rfl⟩, st', fun b hb => (hf b hb).1⟩⟩
  done := by
    intro X hP hw hK hc i pins s σ H E I hf st hg
    subst hP hw hK
    obtain ⟨hd, hi⟩ := hg
    obtain ⟨f0, f1, f2, f3, f4, f5⟩ := hf it (by simp)
    obtain ⟨es', ep', hgd, hx, hdt, hsz, ent⟩ := dn_raw I hd
    obtain ⟨rfl, rfl⟩ := dict_ep hod hdt
    exact next_key_end (I.ok.hd hc) st hgd hdt hsz hi fun h' eb => ⟨rfl, I.turned (t' := s.toks) (fun b ob hb e => eb b ob hb e) f0 f1 f3 f4 f5⟩
  self := fun A i s Q E st h => by
    refine wpAny_pyIter_slot st.typeIs F.slot_dict_keyiterator_iter (wpAny_call_entry F.slot_dict_keyiterator_iter st.typeIs F.entry_dict_keyiterator_iter ?_ (F.args_dict_keyiterator_iter_1 _))
    show wpAny _ _ (ret (.ref it)) _ _ s
    exact wpAny_pure ⟨_, rfl, "dict_keyiterator", _, st.typeIs, F.slot_dict_keyiterator_next.lookup, h⟩
end
theorem serves_dn {K : PySem.W.Frag} {g0 : Gh} {H0 : Hp} {h : Hv} {a : Addr} {l : List (Val × Val)} {xs : NX} {ys : List V} (R0 : HR K g0 H0 h) (na : ¬ g0.own a) (d : DnAt K g0 H0 a l xs ys) : Serves K (Itn a xs) g0 H0 (l.map (·.1), none) := by
  intro g H h' E R _ i
  have at_ : H a = some (DN a xs) := E.keep _ _ d.at_ na
  obtain ⟨_, _, _, rk, _⟩ := d.nr.to
  refine ⟨fun v hv => ?_, fun hi => ⟨at_, by have := d.len; simp at hi; omega⟩⟩
  obtain ⟨z, e1, e2⟩ := rk.get hv
  rw [List.getElem?_map] at e1
  cases ex : xs.2[i]? with
  | none => rw [ex] at e1; cases e1
  | some e =>
    rw [ex] at e1
    have e1 : V.ref e.2.1 = z := Option.some.inj e1
    refine ⟨⟨at_, (List.getElem?_eq_some_iff.mp ex).1⟩, fun x H' y => ?_⟩
    obtain ⟨rfl, e', he', rfl⟩ := y
    rw [ex] at he'
    cases he'
    rw [e1]
    exact ⟨Ext.refl, R, e2.extS R0 E⟩
noncomputable def iSeqN (d : Den) : DenG Src := fun l h => (dTemp d l h).bind fun xs h1 => .ok (xs.map (·.1), none) h1
section
variable {X : Cx} {W : WX}
theorem gi_seqN {tg e : Expr} {d : Den} (he : GE X W e d) : GI X W tg e (iSeqN d) := by
  refine ⟨fun pins s σ H R I ⟨g, l, h, S, Rh, A⟩ => ?_⟩
  have start : tG X.K W (dnr X.K) (dTemp d) σ H fun x H1 => ∃ xs h1 g1, HR X.K g1 H1 h1 ∧ dnr X.K g1 H1 xs x ∧ AfterI X.K W σ g1 H1 R (.ok (xs.map (·.1), none) h1) :=
    tG_I S Rh A fun v h1 g1 H1 x E S1 R1 r1 A1 => ⟨v, h1, g1, R1, r1, A1⟩
  refine thn (he.run pins s σ H _ I (temp_red start)) fun u s1 ⟨x, H1, I1, r1, v, h1, g1, R1, ⟨a, xs, ys, ex, na, D⟩, A1⟩ => ?_
  subst ex
  obtain rfl : u = Value.ref a := r1
  obtain ⟨es, ep, hgd, hx, hdt, hsz, ent⟩ := dn_raw I1 D.at_
  refine iter_keys D.np.sys hgd hx hdt (pi_one (tk := s1.toks) I1 _ (turn_dn _ hdt) ⟨_, Heap.get?_push_size _ rfl, rfl, ?_⟩ (A1.2 g1 H1 _ Ext.refl R1 (by
    have := D.np.sz
    simpa using this) (serves_dn R1 na D)))
  rw [hsz]
  rfl
end
end GH
set_option Elab.async false
set_option linter.all false
set_option maxRecDepth 100000
set_option maxHeartbeats 1000000
set_option autoImplicit false
/-! the truth of a dict that nobody holds. -/
namespace GH
open PySem PySem.Spec PyProof.Rows L2
variable [TheWorld]
section
variable {X : Cx} {W : WX}
theorem truthy_H {prog : Program} {w : World} {K : Type} [DecidableEq K] {knd : HeapKind prog w K} {A : Around} {E : Value → Shared → Prop} {s : Shared} {d : Addr} {xs : List (K × Addr × Value)} {Q : Bool → Shared → Prop} (hd : (d == sysModules) = false) (hm : s.heap.DictOfH knd d xs)
    (fit : (xs.length : Int) < 2 ^ 63) (h : Q (!xs.isEmpty) { s with toks := s.toks + 1 + 1 }) : wpAny (model prog w) A (truthy (.ref d)) Q E s := by
  have ne : ((xs.length : Int) != 0) = !xs.isEmpty := by cases xs <;> simp <;> omega
  have size : wpAny (model prog w) A (runValue (.builtin "len" ⟨[.ref d], []⟩)) (fun r s' => r = .int xs.length (s.toks + 1) ∧ Q (!xs.isEmpty) s') E s := by
    refine wpAny_runValue (codeAny_builtin entry_len ?_)
    rw [Around.under_plainId plain_len _]
    refine wpAny_mono (wpAny_len_body_dictH (Q := fun r s' => r = .int xs.length (s.toks + 1) ∧ Q (!xs.isEmpty) s') hd hm fit ⟨rfl, h⟩) (fun fin s' z => ?_) fun _ _ e => e
    obtain ⟨r, rfl, q⟩ := z
    exact q
  have after : ∀ (r : Value) (s' : Shared), r = .int xs.length (s.toks + 1) ∧ Q (!xs.isEmpty) s' → Q ((xs.length : Int) != 0) s' := fun r s' z => by rw [ne]; exact z.2
  unfold truthy
  first
    | refine wpAny_bind (wpAny_callSpecial?_none (name := Str.ofString "__bool__") hm.typeIs noBool_dict ?_)
    | refine wpAny_bind (wpAny_pure (wpAny_bind (wpAny_callSpecial?_none (name := Str.ofString "__bool__") hm.typeIs noBool_dict ?_)))
  first
    | refine wpAny_bind (wpAny_specialOf (name := Str.ofString "__len__") hm.typeIs F.slot_dict_len.lookup ?_)
    | refine wpAny_bind (wpAny_pure (wpAny_bind (wpAny_specialOf (name := Str.ofString "__len__") hm.typeIs F.slot_dict_len.lookup ?_)))
  first
    | exact wpAny_bind (wpAny_mono size (fun r s' z => by obtain ⟨rfl, q⟩ := z; exact wpAny_pure (ne ▸ q)) fun _ _ e => e)
    | exact wpAny_bind (wpAny_pure (wpAny_bind (wpAny_mono size (fun r s' z => by obtain ⟨rfl, q⟩ := z; exact wpAny_pure (ne ▸ q)) fun _ _ e => e)))
def rTruN (K : PySem.W.Frag) : V → Hp → (Bool → Hp → Prop) → Prop := fun x H Q => ∃ g a l xs ys, x = .ref a ∧ DnAt K g H a l xs ys ∧ Q (!l.isEmpty) H
theorem tru_dn (hw : X.w = TheWorld.w) : TruR X (rTruN X.K) := by
  intro pins s σ H x v Q I rx h
  obtain ⟨g, a, l, xs, ys, rfl, D, q⟩ := h
  obtain rfl : v = Value.ref a := rx
  have e : xs.2.isEmpty = l.isEmpty := by
    have := D.len
    cases hx : xs.2 <;> cases hl : l <;> simp_all
  refine truthy_H D.np.sys (dn_of I hw D.at_ D.np.nd D.nr) ?_ ⟨H, I.tok _, ?_⟩
  · have h1 := D.len
    have h2 := D.np.sz
    rw [sizeLine_eq] at h2
    omega
  · rw [e]; exact q
noncomputable def dTruN (d : Den) : DenG Bool := fun l h => (dTemp d l h).bind fun xs h1 => .ok (!xs.isEmpty) h1
theorem gt_truN {e : Expr} {d : Den} (hw : X.w = TheWorld.w) (he : GE X W e d) (hs : ∀ whole, isTrue e X.env whole = (do let v ← whole; standAt e.pos; holding [v] (truthy v)) := by intro _; rfl) : GT X W e (dTruN d) := by
  have base : PT X e (fun σ H Q => tG X.K W (vr X.K) d σ H fun x H' => rTruN X.K x H' Q) := ⟨fun pins s σ H Q I h => isTrue_plain (thn (he.run pins s σ H _ I h) fun v s1 ⟨x, H1, I1, r1, q1⟩ => tru_dn hw pins s1 σ H1 x v Q I1 r1 q1) (hs _)⟩
  refine PT.imp base fun σ H Q ⟨g, l, h, S, R, A⟩ => ?_
  refine temp_red (tG_of S R A fun v h1 g1 H1 x E S1 R1 r1 A1 => ?_)
  obtain ⟨a, xs, ys, rfl, na, D⟩ := r1
  exact ⟨g1, a, v, xs, ys, rfl, D, A1 g1 H1 _ Ext.refl R1 rfl⟩
end
end GH
set_option Elab.async false
set_option linter.all false
set_option maxRecDepth 100000
set_option maxHeartbeats 1000000
set_option autoImplicit false
/-! sorted of a dict that nobody holds. -/
namespace GH
open PySem PySem.Spec PyProof.Rows L2
variable [TheWorld]
section
variable {P : Program} {w : World} {K : PySem.W.Frag}
/-- the exact object of a dict, its keys -/
def RawAt (h : Heap) (a : Addr) (o : Obj) : Prop := h.get? a = some o
theorem walks_dn {A : Around} {I a : Addr} {o : Obj} {es : Array DictEntry} {ep : Nat} {ks : List Addr} (hh : A.handled = none) (ne : a ≠ I) (hd : o.data = .dict es ep) (hs : es.size = ks.length) (hk : ∀ (i : Nat) (b : Addr), ks[i]? = some b → ∃ en : DictEntry, es[i]? = some en ∧ en.key = Value.ref b) :
    Walks P w A I [I, a] [I] ks.length (fun i v => ∃ b, ks[i]? = some b ∧ v = Value.ref b) (fun i h => h.IsKeyIter I a i ks.length ep ∧ RawAt h a o) where
  sub := fun b hb => by simp at hb; simp [hb]
  frame := fun _ _ _ st k => ⟨st.1.at fun o e => k I (by simp) o e, k a (by simp) _ st.2⟩
  item := fun i s Q E hi st hQ => by
    obtain ⟨b, hb⟩ : ∃ b, ks[i]? = some b := ⟨_, List.getElem?_eq_getElem hi⟩
    obtain ⟨en, e1, e2⟩ := hk i b hb
    refine next_key_item st.1 st.2 hd hs e1 fun h' st' sb => ?_
    rw [e2]
    exact hQ _ h' s.toks ⟨b, hb, rfl⟩ ⟨st', (sb.2 a ne).trans st.2⟩ fun c oc hc e => (sb.2 c (fun z => hc (by simp [z]))).trans e
  done := fun s Q E st hQ => next_key_end hh st.1 st.2 hd hs (Nat.le_refl _) fun h' eb => hQ h' s.toks fun c oc hc e => eb c oc (fun z => hc (by simp [z])) e
  self := fun _ _ _ _ st hQ => wpAny_pyIter_keyiter st.1 hQ
theorem kdl_dn {a : Addr} {o : Obj} {es : Array DictEntry} {ep : Nat} {ks : List Addr} (lo : (a == sysModules) = false) (hx : o.ExactDict) (hd : o.data = .dict es ep) (hs : es.size = ks.length) (hk : ∀ (i : Nat) (b : Addr), ks[i]? = some b → ∃ en : DictEntry, es[i]? = some en ∧ en.key = Value.ref b) :
    PySem.W.KdlSrc P w "dict" a a ks.length (fun i v => ∃ b, ks[i]? = some b ∧ v = Value.ref b) (fun h => RawAt h a o) where
  type := fun _ hm => ⟨_, hm, hx.1⟩
  there := fun _ hm => ⟨Heap.lt_size hm, Heap.lt_size hm⟩
  keep := fun _ _ hm k => k a (.inl rfl) _ hm
  notList := by decide
  notTuple := by decide
  hint := fun _ _ s _ hm hq => PySem.W.kdl_hint_dict (s := s) ⟨_, hm, hx.1⟩ hq
  iter := fun A s hh hm => ⟨_, _, (fun _ _ hq => iter_keys lo hm hx hd hq), walks_dn hh (Nat.ne_of_lt (Heap.lt_size hm)) hd hs hk, ⟨⟨_, Heap.get?_push_size _ rfl, rfl, by rw [hs]; rfl⟩, Heap.get?_push_of_some _ hm⟩⟩
end
end GH
set_option Elab.async false
set_option linter.all false
set_option maxRecDepth 100000
set_option maxHeartbeats 1000000
set_option autoImplicit false
namespace GH
open PySem PySem.Spec PyProof.Rows L2
variable [TheWorld]
section
variable {X : Cx} {W : WX}
def rSortN (K : PySem.W.Frag) : List V → Hp → VK → Prop := fun vs H Q => ∃ g a l xs zs, vs = [.ref a] ∧ DnAt K g H a l xs zs ∧ sortOk (l.map (·.1)) = true ∧ ∀ ys p, VRs K g H (sortV (l.map (·.1))) ys → H p = none → Q (.ref p) (upd H p (.lst ys))
theorem cr_sortN (hcalm : X.calm = true) (hu : X.A.units + 200 < cLine) : CallR X (.builtin "sorted") (rSortN X.K) := by
  intro pins s σ H vs us Q I r h
  obtain ⟨g, a, l, xs, zs, rfl, D, ok, q⟩ := h
  rw [Vals.ref1 r]
  obtain ⟨es, ep, hgd, hx, hdt, hsz, ent⟩ := dn_raw I D.at_
  obtain ⟨_, _, _, rk, _⟩ := D.nr.to
  obtain ⟨ks, eks⟩ : ∃ ks : List Addr, xs.2.map (fun x => x.2.1) = ks := ⟨_, rfl⟩
  obtain ⟨bs, ebs⟩ : ∃ bs, l.map (·.1) = bs := ⟨_, rfl⟩
  have lk : ks.length = xs.2.length := by rw [← eks, List.length_map]
  have rk : VRs X.K g H bs (ks.map V.ref) := by
    rw [← eks, ← ebs, List.map_map]
    exact rk
  rw [ebs] at ok q
  simp only [sortOk, Bool.and_eq_true, decide_eq_true_eq] at ok
  obtain ⟨⟨⟨o1, o2⟩, o3⟩, o4⟩ := ok
  have small : ks.length ≤ sizeLine := by rw [lk, D.len]; exact D.np.sz
  refine Calls.call_function_entry PyProof.Rows.kind_sorted PyProof.Rows.plain_sorted PyProof.Rows.entry_sorted (PyProof.Rows.args_sorted1 _) ?_
  unfold Builtin.«sorted»
  refine wpAny_bind (m := checkCount "sorted" 1 1 _) (wpAny_pure ?_)
  refine wpAny_bind (PySem.W.kdu_collect (A := X.A.in1) (kdl_dn (ks := ks) D.np.sys hx hdt (by rw [hsz, lk]) (fun i b hb => ?_)) (I.ok.hd hcalm) hgd small fun h' tk acc hk hacc => ?_)
  · rw [← eks, List.getElem?_map] at hb
    cases ex : xs.2[i]? with
    | none => rw [ex] at hb; cases hb
    | some e =>
      rw [ex] at hb
      cases hb
      exact ent i e ex
  have la : acc.toList.length = ks.length := by rw [Array.length_toList, hacc.1]
  have ev : acc.toList = ks.map Value.ref := by
    apply List.ext_getElem?
    intro j
    cases ej : acc.toList[j]? with
    | none =>
      have := List.getElem?_eq_none_iff.mp ej
      rw [List.getElem?_eq_none (by rw [List.length_map]; omega)]
    | some v =>
      obtain ⟨b, hb, rfl⟩ := hacc.2 j v (by rw [← Array.getElem?_toList]; exact ej)
      rw [List.getElem?_map, hb]
      rfl
  have rv : ∀ ks : List Addr, Vals (ks.map V.ref) (ks.map Value.ref) := by
    intro ks
    induction ks with
    | nil => exact .nil
    | cons k ks ih => exact .cons rfl ih
  have rv := rv ks
  rw [← ev] at rv
  have I1 : Inv X pins σ H { s with heap := h', toks := tk } := I.kept hk
  refine wpAny_bind (wpAny_newList ?_ (by rw [la]; exact small))
  have ho : (h'.push (seqObj "list" acc.toList.toArray 0)).get? h'.objs.size = some (seqObj "list" acc.toList.toArray 0) := Heap.get?_push_size _ rfl
  show wpAny _ _ _ _ _ { s with heap := h'.push (seqObj "list" acc.toList.toArray 0), toks := tk }
  have each := each_VR rk rv
  have reads : PySem.W.EachIs (fun v b => ∃ as, Reads h' v (pd b) as) acc.toList bs := (PySem.W.each_mem each).mono fun u b ⟨⟨x, q1, q2⟩, hb⟩ => Dp.reads I1 _ _ _ (VR.dp (okVs_mem o1 hb) q2) q1
  have reads2 : PySem.W.EachIs (fun v b => ∃ as, Reads (PySem.W.sortingHeap (h'.push (seqObj "list" acc.toList.toArray 0)) h'.objs.size acc.toList) v (pd b) as) acc.toList bs :=
    reads.mono fun _ _ ⟨as, z⟩ => ⟨as, PyProof.Rows.Reads.keeps (fun b o e => PySem.W.sortingHeap_old (Nat.ne_of_lt (Heap.lt_size e)) (Heap.get?_push_of_some _ e)) z⟩
  have alike_ : PySem.W.AllAlike (bs.map pd) := fun d hd d' hd' => by
    obtain ⟨b, hb, rfl⟩ := List.mem_map.mp hd
    obtain ⟨b', hb', rfl⟩ := List.mem_map.mp hd'
    exact List.all_eq_true.mp (List.all_eq_true.mp o2 b hb) b' hb'
  have kinds : PySem.W.Sortable (bs.map pd) ∨ ∃ r, bs.map pd = .tuple [] :: r := by
    simp only [Bool.or_eq_true] at o3
    rcases o3 with (o3 | o3) | o3
    · refine .inl (.inl fun d hd => ?_)
      obtain ⟨b, hb, rfl⟩ := List.mem_map.mp hd
      have := List.all_eq_true.mp o3 b hb
      unfold isNE at this
      split at this
      · exact ⟨_, _, by simp only [pd, pds]; rfl⟩
      · cases this
    · refine .inl (.inr fun d hd => ?_)
      obtain ⟨b, hb, rfl⟩ := List.mem_map.mp hd
      have := List.all_eq_true.mp o3 b hb
      unfold isPlainK at this
      split at this
      · exact ⟨by simp [pd], fun xs => by simp [pd]⟩
      · exact ⟨by simp [pd], fun xs => by simp [pd]⟩
      · exact ⟨by simp [pd], fun xs => by simp [pd]⟩
      · cases this
    · split at o3
      · exact .inr ⟨_, by simp only [List.map_cons, pd, pds]; rfl⟩
      · cases o3
  have bound : ∀ b, b ∈ bs → X.A.in1.in1.units + (pd b).depth < cLine := fun b hb => by
    have h1 := dpVs_mem hb
    rw [pd_depth]
    show X.A.units + 1 + 1 + dpV b < cLine
    omega
  refine wpAny_bind (wpAny_holding (wpAny_call_entry PyProof.Rows.slot_list_sort ⟨_, ho, rfl⟩ PyProof.Rows.entry_list_sort
    (PySem.W.list_sort_vals (κ := PySem.W.dataKind (PySem.W.sortingHeap (h'.push (seqObj "list" acc.toList.toArray 0)) h'.objs.size acc.toList) (bs.map pd)) (s := { s with heap := h'.push (seqObj "list" acc.toList.toArray 0), toks := tk }) ho
      (PySem.W.GhSortsAt (s := { s with heap := PySem.W.sortingHeap (h'.push (seqObj "list" acc.toList.toArray 0)) h'.objs.size acc.toList, toks := tk }) (PySem.W.each_map (R := fun v d => ∃ as, Reads (PySem.W.sortingHeap (h'.push (seqObj "list" acc.toList.toArray 0)) h'.objs.size acc.toList) v d as) pd reads2) alike_ kinds (PySem.W.bound_map bound)) (by rw [la]; exact small) ⟨.none, rfl, ?_⟩)
    (PyProof.Rows.args_list_sort _)))
  have out := PySem.W.sortVals_data false each reads2 alike_
  obtain ⟨ys, r1, r2⟩ := VRs_each out
  obtain ⟨e', he'⟩ := PyProof.Rows.sortedHeap_at (vs := acc.toList) (out := (PySem.W.sortVals (PySem.W.dataKind (PySem.W.sortingHeap (h'.push (seqObj "list" acc.toList.toArray 0)) h'.objs.size acc.toList) (bs.map pd)) false acc.toList acc.toList).toArray) ho
  have lys : ys.length ≤ sizeLine := by
    rw [r2.length, PySem.W.sortVals_length false rfl, la]
    exact small
  refine wpAny_pure ⟨_, rfl, .ref h'.objs.size, upd H h'.objs.size (.lst ys), I1.laid (t' := tk) (fun b u e => ?_) (Nat.le_refl _) ⟨lys, _, e', r2, he'⟩, rfl, q ys _ r1 (I1.hok.fresh (Nat.le_refl _))⟩
  have hb : b < h'.objs.size := Heap.lt_size e
  rw [PyProof.Rows.sortedHeap_old (Nat.ne_of_lt hb) (by rw [size_push']; exact Nat.lt_succ_of_lt hb)]
  exact Heap.get?_push_of_some _ e
end
end GH
set_option Elab.async false
set_option linter.all false
set_option maxRecDepth 100000
set_option maxHeartbeats 1000000
set_option autoImplicit false
/-! sorted(e), e a dict that nobody holds. -/
namespace GH
open PySem PySem.Spec PyProof.Rows L2
variable [TheWorld]
noncomputable def dSortN (d : Den) : Den := fun l h => (dTemp d l h).bind fun xs h1 => if sortOk (xs.map (·.1)) = true then .ok (.lst (sortV (xs.map (·.1)))) h1 else .fail
section
variable {X : Cx} {W : WX}
theorem ge_sortN {e : Expr} {d : Den} {x : Str} {p pos : Pos} (hc : X.calm = true) (hu : X.A.units + 200 < cLine) (he : GE X W e d) (hm : X.mg x = none) (hg : Gl X x := by rfl) (hv : bootBuiltins x = some (.builtin "sorted") := by decide +kernel) (hn : x ≠ "__name__" := by decide +kernel) (hdb : (x == ("__debug__" : Str)) = false := by decide +kernel)
    (hst : starEach [e] X.env = (false, eval e X.env) :: starEach [] X.env := by rfl) (hpl : (backTo pos (starEach [] X.env)).any (·.1) = false := by rfl) : GE X W (.Call (.Name x p) [e] [] pos) (dSortN d) := by
  refine PE.imp (pe_callB (cr_sortN hc hu) hg hm hv (pa_cons he pa_nil hst) hn hdb hst hpl) fun σ H Q ⟨g, l, h, S, R, A⟩ => ?_
  refine temp_red (tG_of S R A fun v h1 g1 H1 x E S1 R1 r1 A1 => ?_)
  obtain ⟨a, xs, ys, rfl, na, D⟩ := r1
  split at A1
  · rename_i ok
    refine ⟨g1, a, v, xs, ys, rfl, D, ok, fun zs q rz nq => ?_⟩
    obtain ⟨E4, R4⟩ := R1.grow (o := .lst zs) nq
    refine A1 g1 _ (.ref q) E4 R4 ?_
    simp only [VR]
    exact ⟨q, _, rfl, R1.fresh nq, upd_same, rz.ext R1 E4⟩
  · exact A1.elim
end
end GH
set_option Elab.async false
set_option linter.all false
set_option maxRecDepth 100000
set_option maxHeartbeats 1000000
set_option autoImplicit false
/-! d.update(e): d one of ours, e a dict that nobody holds. -/
namespace GH
open PySem PySem.Spec PyProof.Rows L2
variable [TheWorld]
def hashL (m : List (Val × Val)) : List (Option Int) := m.map fun p => (keyN p.1).map fun k => k.hash TheWorld.w
def putAllN (l m : List (Val × Val)) : List (Val × Val) := m.foldl (fun a p => dPutN a p.1 p.2) l
section
variable {K : PySem.W.Frag} {g : Gh} {H : Hp}
theorem NR.putAll : ∀ {m l : List (Val × Val)} {zs xs : List NE} {ws ys : List V}, NR K g H m zs ws → NR K g H l xs ys → ∃ ys', NR K g H (putAllN l m) (storedAllH xs zs) ys'
  | [], l, [], xs, [], ys, _, r => ⟨ys, r⟩
  | p :: m, l, z :: zs, xs, w :: ws, ys, ⟨⟨e, d, r1, r2, rv⟩, t⟩, r => by
    obtain ⟨ys1, r1'⟩ := NR.put e d r1 r2 rv r
    obtain ⟨ys', fin⟩ := NR.putAll t r1'
    exact ⟨ys', fin⟩
  | [], _, [], _, _ :: _, _, t, _ => t.elim
  | [], _, _ :: _, _, _, _, t, _ => t.elim
  | _ :: _, _, [], _, _, _, t, _ => t.elim
  | _ :: _, _, _ :: _, _, [], _, t, _ => t.elim
theorem putAllN_len : ∀ (m l : List (Val × Val)), (putAllN l m).length ≤ l.length + m.length
  | [], l => by simp [putAllN]
  | p :: m, l => by
    have h1 := putAllN_len m (dPutN l p.1 p.2)
    have h2 := dPutN_len l p.1 p.2
    show (putAllN (dPutN l p.1 p.2) m).length ≤ _
    simp only [List.length_cons]
    omega
end
section
variable {X : Cx} {W : WX}
theorem NR.tuples {g : Gh} {H : Hp} {pins : List (Addr × Obj)} {σ : L2.St} {s : Shared} (I : Inv X pins σ H s) : ∀ {l : List (Val × Val)} {xs : List NE} {ys : List V}, NR X.K g H l xs ys → ∀ x ∈ xs, s.TypeIs (.ref x.2.1) "tuple"
  | [], [], [], _, x, hx => nomatch hx
  | q :: l, z :: xs, y :: ys, ⟨⟨e, d, r1, r2, rv⟩, t⟩, x, hx => by
    rcases List.mem_cons.mp hx with rfl | hx
    · cases hq : q.1 with
      | tup L =>
        rw [hq] at r1
        simp only [VR] at r1
        obtain ⟨a, zs, e1, sq, _⟩ := r1
        injection e1 with e1
        rw [e1]
        obtain ⟨its, _, ⟨o, h1, h2, _⟩, _⟩ := I.tuple sq
        exact ⟨o, h1, h2⟩
      | lst L => rw [hq] at e; simp [keyN] at e
      | fz L => rw [hq] at e; simp [keyN] at e
      | ref i => rw [hq] at e; simp [keyN] at e
      | non => rw [hq] at r1; simp [VR] at r1
      | bl b => rw [hq] at r1; simp [VR] at r1
      | int i => rw [hq] at r1; simp [VR] at r1
      | str a => rw [hq] at r1; simp [VR] at r1
    · exact NR.tuples I t x hx
  | [], _ :: _, _, t, _, _ => t.elim
  | [], [], _ :: _, t, _, _ => t.elim
  | _ :: _, [], _, t, _, _ => t.elim
  | _ :: _, _ :: _, [], t, _, _ => t.elim
def rUpdN (K : PySem.W.Frag) : V → V → Hp → VK → Prop := fun x y H Q => ∃ g a b l m xs zs ys ws, x = .ref a ∧ y = .ref b ∧ DnAt K g H a l xs ys ∧ DnAt K g H b m zs ws ∧ a ≠ b ∧ (l ≠ [] ∨ (hashL m).Nodup) ∧ l.length + m.length ≤ sizeLine ∧
  ∀ o, ((storedAllH xs.2 zs.2).map (·.1)).Nodup → Q .non (upd H a (DN a (o, storedAllH xs.2 zs.2)))
theorem upd_dn {pins : List (Addr × Obj)} {σ : L2.St} {H : Hp} {s : Shared} {x y : V} {xv yv : Value} {Q : VK} {A : Around} {E : Value → Shared → Prop} (hu : A.units + 200 < cLine) (hw : X.w = TheWorld.w) (I : Inv X pins σ H s) (rx : RelV x xv) (ry : RelV y yv) (h : rUpdN X.K x y H Q) :
    wpAny (model X.prog X.w) A (call (.builtin "dict.update") [xv, yv]) (EP X pins σ Q) E s := by
  obtain ⟨g, a, b, l, m, xs, zs, ys, ws, rfl, rfl, D1, D2, ne, hh, sz, q⟩ := h
  obtain rfl : xv = Value.ref a := rx
  obtain rfl : yv = Value.ref b := ry
  refine call_update_dictH (knd := nestedKind X.prog X.w) (show A.units + 1 + 8 < cLine by omega) ne D2.np.sys (dn_of I hw D1.at_ D1.np.nd D1.nr) (dn_of I hw D2.at_ D2.np.nd D2.nr) ?_ (by rw [D1.len, D2.len]; exact sz) fun h' dd _ sb => ?_
  · rcases hh with hh | hh
    · left
      intro z
      have := D1.len
      rw [z] at this
      exact hh (List.length_eq_zero_iff.mp this.symm)
    · right
      refine ⟨NR.tuples I D2.nr, ?_⟩
      have e : hashL m = zs.2.map fun x => some (x.1.hash TheWorld.w) := by
        unfold hashL
        have := D2.np.ks
        rw [show (m.map fun p => (keyN p.1).map fun k => k.hash TheWorld.w) = (m.map fun p => keyN p.1).map (fun o => o.map fun k => k.hash TheWorld.w) by rw [List.map_map]; rfl, this, List.map_map]
        rfl
      rw [e] at hh
      have hh : ((zs.2.map fun x => x.1.hash TheWorld.w).map some).Nodup := by rw [List.map_map]; exact hh
      have hh3 : (zs.2.map fun x => x.1.hash TheWorld.w).Nodup := List.Pairwise.of_map some (fun a b (z : some a ≠ some b) (e : a = b) => z (by rw [e])) hh
      rw [hw]
      exact hh3
  · have nd : ((storedAllH xs.2 zs.2).map (·.1)).Nodup := let ⟨_, _, _, _, _, _, _, _, n⟩ := dd; n
    obtain ⟨o, h1, new⟩ := dn_new (H' := fun o => upd H a (DN a (o, storedAllH xs.2 zs.2))) hw dd
    exact ⟨.non, _, d_write I (by rw [D1.at_]; exact True.intro) sb ⟨o, h1⟩ new, rfl, q o nd⟩
def tUpdN (K : PySem.W.Frag) (to te : TE) : TE := fun σ H Q => to σ H fun x H1 => (∃ a xs, x = .ref a ∧ H1 a = some (DN a xs)) ∧ te σ H1 fun y H2 => rUpdN K x y H2 Q
theorem pe_updN {o e : Expr} {to te : TE} {apos pos : Pos} (hu : X.A.units + 200 < cLine) (hw : X.w = TheWorld.w) (ho : PE X o to) (he : PE X e te)
    (hs : starEach [e] X.env = [(false, eval e X.env)] := by rfl) (hbase : attributeBase o "update" X.env (eval o X.env) = eval o X.env := by rfl) (hline : (apos.endLine == pos.line) = true := by rfl) :
    PE X (.Call (.Attribute o "update" apos) [e] [] pos) (tUpdN X.K to te) := by
  refine ⟨fun pins s σ H Q I h => ?_⟩
  refine PySem.Call_method1 hbase hs hline (thn (ho.run pins s σ H _ I h) fun v s1 ⟨x, H1, I1, r1, q1⟩ => ?_)
  obtain ⟨⟨a, xs, rfl, at_⟩, q1⟩ := q1
  obtain rfl : v = Value.ref a := r1
  obtain ⟨ty, dn⟩ := dn_type I1 at_
  refine ⟨"dict", _, F.plainAttrs_dict, F.slot_dict_update, F.type_dict_update, ty, dn, Calls.callWith_builtin rfl (Calls.evalArgs_plain (Calls.spliced_cons ?_))⟩
  exact thn (he.run pins s1 σ H1 _ I1 q1) fun u s2 ⟨y, H2, I2, r2, q2⟩ => Calls.spliced_nil (upd_dn (x := .ref a) hu hw I2 (show RelV (.ref a) (Value.ref a) from rfl) r2 q2)
end
end GH
set_option Elab.async false
set_option linter.all false
set_option maxRecDepth 100000
set_option maxHeartbeats 1000000
set_option autoImplicit false
namespace GH
open PySem PySem.Spec PyProof.Rows L2
variable [TheWorld]
open Classical in
noncomputable def updN (i : Nat) (m : List (Val × Val)) (h2 : Hv) : Res Val := match h2[i]? with
  | some (.dn xs) => if (xs ≠ [] ∨ (hashL m).Nodup) ∧ xs.length + m.length ≤ lineN then .ok .non (h2.set i (.dn (putAllN xs m))) else .fail
  | _ => .fail
noncomputable def dUpdN (od de : Den) : Den := fun l h => (od l h).bind fun v h1 => match v with
  | .ref i => (match h1[i]? with
    | some (.dn _) => (dTemp de l h1).bind fun m h2 => updN i m h2
    | _ => .fail)
  | _ => .fail
section
variable {X : Cx} {W : WX}
theorem ge_updN {o e : Expr} {od de : Den} {apos pos : Pos} (hu : X.A.units + 200 < cLine) (hw : X.w = TheWorld.w) (ho : GE X W o od) (he : GE X W e de)
    (hs : starEach [e] X.env = [(false, eval e X.env)] := by rfl) (hbase : attributeBase o "update" X.env (eval o X.env) = eval o X.env := by rfl) (hline : (apos.endLine == pos.line) = true := by rfl) :
    GE X W (.Call (.Attribute o "update" apos) [e] [] pos) (dUpdN od de) := by
  refine PE.imp (pe_updN hu hw ho he hs hbase hline) fun σ H Q ⟨g, l, h, S, R, A⟩ => ?_
  refine tG_of S R A fun v h1 g1 H1 x E S1 R1 r1 A1 => ?_
  split at A1
  · rename_i i
    split at A1
    · rename_i xs0 hi
      have r1' : VR X.K g1 H1 (.ref i) x := r1
      simp only [VR] at r1
      obtain ⟨a, rfl, hm⟩ := r1
      obtain ⟨ns, ys, e1, _⟩ := ref_at R1 hi hm
      refine ⟨⟨a, ns, rfl, e1⟩, temp_red (tG_of S1 R1 A1 fun m h2 g2 H2 y E2 S2 R2 r2 A2 => ?_)⟩
      obtain ⟨b, zs, ws, rfl, na, D2⟩ := r2
      have r3 := VR.ext R1 E2 r1'
      simp only [VR] at r3
      obtain ⟨a', e3, hm2⟩ := r3
      injection e3 with e3
      subst e3
      unfold updN at A2
      split at A2
      · rename_i xs hx
        obtain ⟨ns2, ys2, f1, p, f2, f3⟩ := ref_at R2 hx hm2
        have D1 : DnAt X.K g2 H2 a xs ns2 ys2 := ⟨f1, p, NR.of p.ks p.dp p.vs f2 f3⟩
        split at A2
        · rename_i c
          have sz : xs.length + m.length ≤ sizeLine := c.2
          refine ⟨g2, a, b, xs, m, ns2, zs, ys2, ws, rfl, rfl, D1, D2, fun z => na (.inl (by rw [← z]; exact List.mem_of_getElem? hm2)), c.1, sz, fun oo nd => ?_⟩
          obtain ⟨E3, R3⟩ := R2.write (ob := .dn (putAllN xs m)) (o' := DN a (oo, storedAllH ns2.2 zs.2)) hm2 (fun E3 => by
            have up : ∀ {l : List (Val × Val)} {xs : List NE} {ys : List V}, NR X.K g2 H2 l xs ys → NR X.K g2 (upd H2 a (DN a (oo, storedAllH ns2.2 zs.2))) l xs ys := fun r => by
              obtain ⟨a1, a2, a3, a4, a5⟩ := r.to
              exact NR.of a1 a2 a3 (a4.ext R2 E3) (a5.ext R2 E3)
            obtain ⟨ys', nr⟩ := NR.putAll (up D2.nr) (up D1.nr)
            obtain ⟨p1, p2, p3, p4, p5⟩ := nr.to
            have := putAllN_len m xs
            exact ⟨(oo, storedAllH ns2.2 zs.2), ys', upd_same, ⟨D1.np.sys, by omega, p1, p2, nd, p3⟩, p4, p5⟩) (fun ps z => by cases z)
          exact A2 g2 _ .non E3 R3 (by simp only [VR])
        · exact A2.elim
      · exact A2.elim
    · exact A1.elim
  · exact A1.elim
end
end GH
set_option Elab.async false
set_option linter.all false
set_option maxRecDepth 100000
set_option maxHeartbeats 1000000
set_option autoImplicit false
/-! {k: v}, k a tuple. -/
namespace GH
open PySem PySem.Spec PyProof.Rows L2
variable [TheWorld]
def tOneN (K : PySem.W.Frag) (tk tv : TE) : TE := fun σ H Q => ∀ D, H D = none → (D == sysModules) = false → tk σ (upd H D (DN D (dict0, []))) fun y H1 => tv σ H1 fun z H2 =>
  H2 D = some (DN D (dict0, [])) ∧ ∃ g k nk b, y = .ref b ∧ keyN k = some nk ∧ nk.depth ≤ 8 ∧ VR K g H2 k (.ref b) ∧ ∀ u o, RelV z u → Q (.ref D) (upd H2 D (DN D (o, [(nk, b, u)])))
section
variable {X : Cx} {W : WX}
theorem pe_oneN {kx vx : Expr} {tk tv : TE} {pos : Pos} (hu : X.A.units + 200 < cLine) (hw : X.w = TheWorld.w) (hk : PE X kx tk) (hv : PE X vx tv)
    (hshape : (evalEachOpt [some kx] X.env).zip ((evalEach [vx] X.env).map fun v => do let x ← v; standAt pos; pure x) = [((eval kx X.env, do let x ← eval vx X.env; standAt pos; pure x) : Sem Value × Sem Value)].map fun p => (some p.1, p.2) := by rfl) :
    PE X (.Dict [some kx] [vx] pos) (tOneN X.K tk tv) := by
  refine ⟨fun pins s σ H Q I h => ?_⟩
  rw [arm_eval_Dict, hshape, dictDisplay_pairs _ (by simp) (by simp)]
  have I0 : Inv X pins σ (upd H s.heap.objs.size (DN s.heap.objs.size (dict0, []))) { s with heap := s.heap.push { cls := .type "dict", data := .dict #[] } } :=
    I.laid (t' := s.toks) (fun b o e => Heap.get?_push_of_some _ e) (Nat.le_refl _) (dn_empty s.heap)
  have sys : (s.heap.objs.size == sysModules) = false := beq_eq_false_iff_ne.mpr (Ne.symm (Nat.ne_of_lt I.big))
  refine wpAny_bind (wpAny_standAt (wpAny_bind (wpAny_subDictH (knd := nestedKind X.prog X.w) (show X.A.units + 8 < cLine by omega) (by simp) ?_)))
  refine evalPairs_cons (thn (hk.run pins _ σ _ _ I0 (h _ (I.hok.fresh (Nat.le_refl _)) sys)) fun kv s1 ⟨y, H1, I1, r1, q1⟩ => ?_)
  refine wpAny_bind (thn (hv.run pins s1 σ H1 _ I1 q1) fun vv s2 ⟨z, H2, I2, r2, at_, g, k, nk, b, ey, hkn, hd, rk, q⟩ => ?_)
  subst ey
  obtain rfl : kv = Value.ref b := r1
  refine wpAny_bind (wpAny_standAt (wpAny_pure (evalPairs_nil ?_)))
  refine ⟨[(nk, b, vv)], ⟨rfl, rfl, ⟨keyN_is I2 hkn rk rfl, hd⟩, trivial⟩, dn_of (xs := (dict0, [])) (ys := []) (l := []) (g := g) I2 hw at_ List.nodup_nil True.intro, fun h' tok dd sb => ?_⟩
  obtain ⟨o, h1, new⟩ := dn_new (H' := fun o => upd H2 s.heap.objs.size (DN s.heap.objs.size (o, [(nk, b, vv)]))) hw dd
  refine wpAny_pure ⟨.ref s.heap.objs.size, _, d_write I2 (by rw [at_]; exact True.intro) sb ⟨o, h1⟩ new, rfl, q vv o r2⟩
noncomputable def dOneN (dk dv_ : Den) : Den := fun l h => match dk l h with
  | .ok k h1 => (match dv_ l h1 with
    | .ok v h2 => if keyOk k = true then .ok (.ref h2.length) (h2 ++ [.dn [(k, v)]]) else .fail
    | _ => .fail)
  | _ => .fail
theorem ge_oneN {kx vx : Expr} {dk dv_ : Den} {pos : Pos} (hu : X.A.units + 200 < cLine) (hw : X.w = TheWorld.w) (hk : GE X W0 kx dk) (hv : GE X W0 vx dv_)
    (hshape : (evalEachOpt [some kx] X.env).zip ((evalEach [vx] X.env).map fun v => do let x ← v; standAt pos; pure x) = [((eval kx X.env, do let x ← eval vx X.env; standAt pos; pure x) : Sem Value × Sem Value)].map fun p => (some p.1, p.2) := by rfl) :
    GE X W (.Dict [some kx] [vx] pos) (dOneN dk dv_) := by
  refine PE.imp (pe_oneN hu hw hk hv hshape) fun σ H Q ⟨g, l, h, S, R, A⟩ D nD sD => ?_
  obtain ⟨ES, RD⟩ := R.aside (o := DN D (dict0, [])) nD MutX.dn
  unfold dOneN at A
  refine ⟨⟨g.m, D :: g.r⟩, l, h, S.extS R ES, RD, ?_⟩
  cases ek : dk l h with
  | exc e h1 => rw [ek] at A; exact A.elim
  | fail => rw [ek] at A; exact A.elim
  | ok k h1 =>
    rw [ek] at A
    simp only at A
    intro g1 H1 y E1 R1 r1
    refine ⟨g1, l, h1, (S.extS R ES).ext RD E1, R1, ?_⟩
    cases ev : dv_ l h1 with
    | exc e h2 => rw [ev] at A; exact A.elim
    | fail => rw [ev] at A; exact A.elim
    | ok v h2 =>
      rw [ev] at A
      simp only at A
      intro g2 H2 z E2 R2 r2
      split at A
      · rename_i ok
        have E12 := E1.trans E2
        have at_ : H2 D = some (DN D (dict0, [])) := E12.keepN D _ upd_same (fun ps z => by cases z) (fun z => R.fresh nD (.inl z))
        have hD : D ∈ g2.r := by rw [E12.r]; exact List.mem_cons_self ..
        obtain ⟨b, nk, rfl, hkn, hdp, rk⟩ := keyOk_K (VR.ext R1 E2 r1) ok
        refine ⟨at_, g2, k, nk, b, rfl, hkn, hdp, rk, fun u oo ru => ?_⟩
        refine promote (o1 := DN D (oo, [(nk, b, u)])) (ob := .dn [(k, v)]) R nD E12 R2 MutX.dn (fun hm ho => ?_) A (fun ps z => by cases z)
        refine ⟨(oo, [(nk, b, u)]), [z], upd_same, ⟨sD, by show 1 ≤ sizeLine; decide, by simp [hkn], by simpa using hdp, by simp, .cons ru .nil⟩, ?_, ?_⟩
        · exact ((VRs.cons rk VRs.nil).reset (zs := DN D (oo, [(nk, b, u)])) hD at_ MutX.dn).own hm ho
        · exact ((VRs.cons r2 VRs.nil).reset (zs := DN D (oo, [(nk, b, u)])) hD at_ MutX.dn).own hm ho
      · exact A.elim
end
end GH
set_option Elab.async false
set_option linter.all false
set_option maxRecDepth 100000
set_option maxHeartbeats 1000000
set_option autoImplicit false
/-! plain Lean, from k07's mirror: what every mirror wants. -/
namespace GH
open PySem
variable [TheWorld]
theorem depth_nums : ∀ L : List Int, NestedKey.depthAll (L.map .num) ≤ 1
  | [] => by simp [NestedKey.depthAll]
  | i :: L => by simp only [List.map_cons, NestedKey.depthAll, NestedKey.depth]; have := depth_nums L; omega
theorem snoc_ind {α : Type} {P : List α → Prop} (n : P []) (c : ∀ L x, P L → P (L ++ [x])) (L : List α) : P L := by
  have q : ∀ M : List α, P M.reverse := by
    intro M
    induction M with
    | nil => exact n
    | cons x M ih => rw [List.reverse_cons]; exact c _ x ih
  have := q L.reverse
  rwa [List.reverse_reverse] at this
theorem get_at (h0 g : Hv) (i : Nat) : (h0 ++ g)[h0.length + i]? = g[i]? := by
  rw [List.getElem?_append_right (by omega)]
  congr 1
  omega
theorem set_at (h0 g : Hv) (i : Nat) (o : Ob) : (h0 ++ g).set (h0.length + i) o = h0 ++ g.set i o := by
  show List.set (h0 ++ g : List Ob) _ _ = (h0 ++ g.set i o : List Ob)
  rw [List.set_append, if_neg (by omega)]
  congr 2
  omega
theorem get_set {g : Hv} {i j : Nat} {o u : Ob} (e : g[i]? = some u) : (g.set j o)[i]? = if i = j then some o else some u := by
  rw [List.getElem?_set]
  by_cases c : i = j
  · subst c
    have : i < g.length := (List.getElem?_eq_some_iff.mp e).1
    simp [this]
  · have : ¬ j = i := fun z => c z.symm
    simp [c, this, e]
theorem pop_at {l : GH.Loc} {h : Hv} {i j : Nat} {L : List Val} {v : Val} (e : l[i]? = some (some (.ref j))) (x : h[j]? = some (.lst (L ++ [v]))) : dMeth0 isLst vPop (dVar i) l h = .ok v (h.set j (.lst L)) := by
  rw [e_meth0, dv e, Res.bind_ok, if_pos (isLst_ref x)]
  exact pop_ref x
theorem app_at {l : GH.Loc} {h : Hv} {i j : Nat} {L : List Val} {v : Val} {d : Den} (e : l[i]? = some (some (.ref j))) (x : h[j]? = some (.lst L)) (ed : d l h = .ok v h) (n : L.length < 16777216) : dMeth1 isLst vAppend (dVar i) d l h = .ok .non (h.set j (.lst (L ++ [v]))) := by
  rw [e_meth1, dv e, Res.bind_ok, if_pos (isLst_ref x), ed, Res.bind_ok]
  exact append_ref x n
theorem okV_chr {c : Nat} (h : c ≤ 122) : okV (.str [c]) = true := by
  simp [okV]
  omega
theorem okVs_nats : ∀ m : List Nat, okVs (m.map fun b : Nat => Val.int b) = true
  | [] => rfl
  | b :: m => by simp only [List.map_cons, okVs, okV, okVs_nats m, Bool.and_self]
theorem eq_nilT {L : List Val} {h : Hv} (o : okV (.tup L) = true) : vEq (.tup L) (.tup []) h = .ok (.bl L.isEmpty) h := by
  have e1 : eqOk (.tup L) (.tup []) = true := by
    have : dpV (.tup []) = 1 := rfl
    have q : min (dpV (.tup L)) (dpV (.tup [])) ≤ 190 := Nat.le_trans (Nat.min_le_right ..) (by rw [this]; decide)
    unfold eqOk
    rw [o]
    exact decide_eq_true q
  cases L with
  | nil => rfl
  | cons v L =>
    show (if eqOk (.tup (v :: L)) (.tup []) then Res.ok (Val.bl (veq (.tup (v :: L)) (.tup []))) h else .fail) = _
    rw [if_pos e1]
    rfl
theorem pv_snoc (p : List Int) (i : Int) (hp : p.length ≤ 100) (h : Hv) : vAdd (pv p) (.tup [.int i]) h = .ok (pv (p ++ [i])) h := by
  rw [show pv p = .tup (p.map .int) from rfl, add_tup (by simp; omega)]
  simp [pv]
theorem dlcO_eq {α : Type} {vs : List Nat} {di : DenG Src} {t : Tg} {e : Den} {l : GH.Loc} {h : Hv} {o : Option Nat} (V G : α → Val) (L : List α) (ed : di l h = .ok (L.map V, o) h) (so : srcOk (L.map V, o) h) (q : ∀ p ∈ L, ∃ l1, t (V p) (wipeL l vs) h = .ok l1 h ∧ e l1 h = .ok (G p) h) : dLc frozen vs di t dYes e l h = .ok (.lst (L.map G)) h := by
  unfold dLc
  rw [ed, Res.bind_ok, lcL_mapL V G so L [] q]
  rfl
theorem lcL_grow {α : Type} (V : α → Val) (O : α → Ob) {t : Tg} {e : Den} {s : Src} {l : GH.Loc} {h0 : Hv} (so : ∀ g, srcOk s (h0 ++ g)) : ∀ (L : List α) (g : Hv) (acc : List Val), (∀ x ∈ L, ∀ g, ∃ l1, t (V x) l (h0 ++ g) = .ok l1 (h0 ++ g) ∧ e l1 (h0 ++ g) = .ok (.ref (h0 ++ g).length) (h0 ++ g ++ [O x])) →
    lcL t dYes e s (L.map V) acc l (h0 ++ g) = .ok (acc ++ (List.range' (h0.length + g.length) L.length).map Val.ref) (h0 ++ (g ++ L.map O))
  | [], g, acc, _ => by simp [lcL, so g]
  | x :: L, g, acc, q => by
    obtain ⟨l1, e1, e2⟩ := q x (List.mem_cons_self ..) g
    have ih := lcL_grow V O so L (g ++ [O x]) (acc ++ [.ref (h0 ++ g).length]) fun y hy => q y (List.mem_cons_of_mem _ hy)
    simp only [List.map_cons, lcL, so g, if_true, e1, e_yes, e2]
    rw [List.append_assoc, ih]
    simp [List.range'_succ, Nat.add_assoc]
def DP (s : List (List Int)) : List (Val × Val) := s.foldl (fun a p => dPutN a (pv p) (.bl true)) []
theorem DP_get (s : List (List Int)) (p : List Int) : (dGetN (DP s) (pv p)).isSome = decide (p ∈ s) := by
  refine snoc_ind (P := fun s => (dGetN (DP s) (pv p)).isSome = decide (p ∈ s)) rfl (fun s q ih => ?_) s
  rw [show DP (s ++ [q]) = dPutN (DP s) (pv q) (.bl true) by simp [DP], dGetN_put, kEqN_pv]
  by_cases c : q = p
  · subst c; simp
  · rw [if_neg (by simpa using c), ih]
    have : ¬ p = q := fun z => c z.symm
    simp [this]
theorem keyOk_pv (p : List Int) : keyOk (pv p) = true := by
  have := keyN_pv p
  unfold keyOk
  simp only [pv] at this ⊢
  rw [this]
  simp only [NestedKey.depth]
  have := depth_nums p
  exact decide_eq_true (by omega)
theorem lcL_ex {α : Type} (V : α → Val) (Q : Val → Prop) {t : Tg} {e : Den} {s : Src} {l : GH.Loc} (I : Hv → Prop) (so : ∀ h, I h → srcOk s h) : ∀ (L : List α) (acc : List Val) (h : Hv), (∀ x ∈ L, ∀ h, I h → ∃ l1 v h', t (V x) l h = .ok l1 h ∧ e l1 h = .ok v h' ∧ Q v ∧ I h') → I h → (∀ v ∈ acc, Q v) →
    ∃ ys h', lcL t dYes e s (L.map V) acc l h = .ok ys h' ∧ ys.length = acc.length + L.length ∧ (∀ v ∈ ys, Q v) ∧ I h'
  | [], acc, h, _, i, q => ⟨acc, h, by simp [lcL, so h i], rfl, q, i⟩
  | x :: L, acc, h, st, i, q => by
    obtain ⟨l1, v, h1, e1, e2, qv, i1⟩ := st x (List.mem_cons_self ..) h i
    obtain ⟨ys, h', e3, e4, e5, e6⟩ := lcL_ex V Q I so L (acc ++ [v]) h1 (fun y hy => st y (List.mem_cons_of_mem _ hy)) i1 (by
      intro u hu
      rcases List.mem_append.mp hu with hu | hu
      · exact q u hu
      · rw [List.mem_singleton.mp hu]; exact qv)
    refine ⟨ys, h', ?_, by rw [e4]; simp; omega, e5, e6⟩
    simp only [List.map_cons, lcL, so h i, if_true, e1, e_yes, e2, e3]
theorem dlc_ex {α : Type} {vs : List Nat} {di : DenG Src} {t : Tg} {e : Den} {l : GH.Loc} {h : Hv} {o : Option Nat} (V : α → Val) (Q : Val → Prop) (I : Hv → Prop) (L : List α) (ed : di l h = .ok (L.map V, o) h) (so : ∀ h, I h → srcOk (L.map V, o) h) (i : I h) (st : ∀ x ∈ L, ∀ h, I h → ∃ l1 v h', t (V x) (wipeL l vs) h = .ok l1 h ∧ e l1 h = .ok v h' ∧ Q v ∧ I h') :
    ∃ ys h', dLc frozen vs di t dYes e l h = .ok (.lst ys) h' ∧ ys.length = L.length ∧ (∀ v ∈ ys, Q v) ∧ I h' := by
  obtain ⟨ys, h', e1, e2, e3, e4⟩ := lcL_ex V Q I so L [] h st i (fun v hv => by cases hv)
  refine ⟨ys, h', ?_, by simpa using e2, e3, e4⟩
  unfold dLc
  rw [ed, Res.bind_ok]
  show (lcL t dYes e _ (L.map V) [] _ h).bind frozen = _
  rw [e1]
  rfl
theorem lcF_ex {α : Type} (V : α → Val) {t : Tg} {c : DenG Bool} {e : Den} {s : Src} {l : GH.Loc} (I : Hv → Prop) (so : ∀ h, I h → srcOk s h) : ∀ (L acc : List α) (h : Hv), (∀ x ∈ L, ∀ h, I h → ∃ l1 b h', t (V x) l h = .ok l1 h ∧ c l1 h = .ok b h' ∧ I h' ∧ (b = true → e l1 h' = .ok (V x) h')) → I h →
    ∃ (ys : List α) (h' : Hv), lcL t c e s (L.map V) (acc.map V) l h = .ok (ys.map V) h' ∧ I h'
  | [], acc, h, _, i => ⟨acc, h, by simp [lcL, so h i], i⟩
  | x :: L, acc, h, st, i => by
    obtain ⟨l1, b, h1, e1, e2, i1, e3⟩ := st x (List.mem_cons_self ..) h i
    cases b with
    | true =>
      obtain ⟨ys, h', e4, i'⟩ := lcF_ex V I so L (acc ++ [x]) h1 (fun y hy => st y (List.mem_cons_of_mem _ hy)) i1
      refine ⟨ys, h', ?_, i'⟩
      rw [List.map_append, List.map_singleton] at e4
      simp only [List.map_cons, lcL, so h i, if_true, e1, e2, e3 rfl, e4]
    | false =>
      obtain ⟨ys, h', e4, i'⟩ := lcF_ex V I so L acc h1 (fun y hy => st y (List.mem_cons_of_mem _ hy)) i1
      refine ⟨ys, h', ?_, i'⟩
      simp only [List.map_cons, lcL, so h i, if_true, e1, e2, e4, Bool.false_eq_true, if_false]
theorem tuple_ref {i : Nat} {L : List Val} {h : Hv} (e : h[i]? = some (.lst L)) : vTuple (.ref i) h = .ok (.tup L) h := by
  simp only [vTuple, seqOf, lstOf, e]
theorem bls_of : ∀ {ys : List Val}, (∀ v ∈ ys, ∃ b, v = .bl b) → ∃ L : List Bool, ys = L.map .bl
  | [], _ => ⟨[], rfl⟩
  | v :: ys, h => by
    obtain ⟨b, rfl⟩ := h v (List.mem_cons_self ..)
    obtain ⟨L, rfl⟩ := bls_of fun u hu => h u (List.mem_cons_of_mem _ hu)
    exact ⟨b :: L, rfl⟩
theorem no_if {t : DenG Bool} {rest : Stm} {l : GH.Loc} {h : Hv} {c : Bool} (e : t l h = .ok c h) : sSeq (sIf t (sSeq (sRet (dC (.bl false))) sNext) sNext) rest l h = if c = true then .rt (.bl false) h else rest l h := by
  rw [e_seq, e_if, e]
  cases c <;> rfl
theorem or_eq {a c : DenG Bool} {l : GH.Loc} {h : Hv} {x y : Bool} (e1 : a l h = .ok x h) (e2 : x = false → c l h = .ok y h) : dOr a c l h = .ok (x || y) h := by
  rw [e_or, e1, Res.bind_ok]
  cases x with
  | true => rfl
  | false => rw [if_neg Bool.false_ne_true, e2 rfl]; rfl
theorem not_eq {a : DenG Bool} {l : GH.Loc} {h : Hv} {x : Bool} (e1 : a l h = .ok x h) : dNot a l h = .ok (!x) h := by
  rw [e_not, e1, Res.bind_ok]
theorem tru_eq {d : Den} {l : GH.Loc} {h : Hv} {x : Bool} (e1 : d l h = .ok (.bl x) h) : dTru d l h = .ok x h := by
  rw [e_tru, e1, Res.bind_ok, vTru_bl]
theorem okVs_all : ∀ {L : List Val}, (∀ v ∈ L, okV v = true) → okVs L = true
  | [], _ => rfl
  | v :: L, h => by simp only [okVs, h v (List.mem_cons_self ..), okVs_all fun u hu => h u (List.mem_cons_of_mem _ hu), Bool.and_self]
theorem okVs_fil {L : List Val} {F : Val → Bool} (o : okVs L = true) : okVs (L.filter F) = true := okVs_all fun v hv => okVs_mem o (List.mem_filter.mp hv).1
theorem fil_nil {L : List Val} {F : Val → Bool} : (L.filter fun x => !F x).isEmpty = L.all F := by
  induction L with
  | nil => rfl
  | cons v L ih =>
    rw [List.filter_cons, List.all_cons, ← ih]
    cases F v <;> simp
theorem lt_one (a b : Nat) : decide (([a] : List Nat) < [b]) = decide (a < b) := by
  refine decide_eq_decide.mpr ?_
  constructor
  · intro h
    rcases h with _ | h | h
    · assumption
    · rename_i h; cases h
  · intro h; exact List.Lex.rel h
theorem vList_tup (L : List Val) (h : Hv) : vList (.tup L) h = .ok (.lst L) h := nrfl rfl
theorem vNe_nil {h : Hv} : vNe (.lst []) (.lst []) h = .ok (.bl false) h := (vEq_lnil [] rfl h).2
theorem cut_mem {v : Val} {L : List Val} {a b : Option Int} (h : v ∈ cut L a b) : v ∈ L := by
  unfold cut at h
  exact List.mem_of_mem_drop (List.mem_of_mem_take h)
theorem cut_len {L : List Val} {a b : Option Int} : (cut L a b).length ≤ L.length := by
  unfold cut
  rw [List.length_take, List.length_drop]
  omega
theorem okVs_app {A B : List Val} (a : okVs A = true) (b : okVs B = true) : okVs (A ++ B) = true := okVs_all fun v hv => (List.mem_append.mp hv).elim (okVs_mem a) (okVs_mem b)
theorem app_at2 {l : GH.Loc} {h h1 : Hv} {i j : Nat} {L L0 : List Val} {v : Val} {d : Den} (e : l[i]? = some (some (.ref j))) (x0 : h[j]? = some (.lst L0)) (ed : d l h = .ok v h1) (x : h1[j]? = some (.lst L)) (n : L.length < 16777216) : dMeth1 isLst vAppend (dVar i) d l h = .ok .non (h1.set j (.lst (L ++ [v]))) := by
  rw [e_meth1, dv e, Res.bind_ok, if_pos (isLst_ref x0), ed, Res.bind_ok]
  exact append_ref x n
theorem callS {G : DF} {a b : Den} {v u w : Val} {l : GH.Loc} {h h1 h2 h3 : Hv} (ea : a l h = .ok v h1) (eb : b l h1 = .ok u h2) (eG : G [v, u] h2 = .ok w h3) : dCall G (dCons a (dCons b dNil)) l h = .ok w h3 := by
  rw [e_call, e_cons, ea, Res.bind_ok, e_cons, eb, Res.bind_ok, e_nil, Res.bind_ok, Res.bind_ok, Res.bind_ok, eG]
theorem call1 {G : DF} {a : Den} {v w : Val} {l : GH.Loc} {h h1 h3 : Hv} (ea : a l h = .ok v h1) (eG : G [v] h1 = .ok w h3) : dCall G (dCons a dNil) l h = .ok w h3 := by
  rw [e_call, e_cons, ea, Res.bind_ok, e_nil, Res.bind_ok, Res.bind_ok, eG]
theorem call3 {G : DF} {a b c : Den} {v u x w : Val} {l : GH.Loc} {h h1 h2 h3 h4 : Hv} (ea : a l h = .ok v h1) (eb : b l h1 = .ok u h2) (ec : c l h2 = .ok x h3) (eG : G [v, u, x] h3 = .ok w h4) : dCall G (dCons a (dCons b (dCons c dNil))) l h = .ok w h4 := by
  rw [e_call, e_cons, ea, Res.bind_ok, e_cons, eb, Res.bind_ok, e_cons, ec, Res.bind_ok, e_nil, Res.bind_ok, Res.bind_ok, Res.bind_ok, Res.bind_ok, eG]
theorem call4 {G : DF} {a b c d : Den} {v u x y w : Val} {l : GH.Loc} {h h1 h2 h3 h4 h5 : Hv} (ea : a l h = .ok v h1) (eb : b l h1 = .ok u h2) (ec : c l h2 = .ok x h3) (ed : d l h3 = .ok y h4) (eG : G [v, u, x, y] h4 = .ok w h5) : dCall G (dCons a (dCons b (dCons c (dCons d dNil)))) l h = .ok w h5 := by
  rw [e_call, e_cons, ea, Res.bind_ok, e_cons, eb, Res.bind_ok, e_cons, ec, Res.bind_ok, e_cons, ed, Res.bind_ok, e_nil, Res.bind_ok, Res.bind_ok, Res.bind_ok, Res.bind_ok, Res.bind_ok, eG]
theorem take_ex {G : DF} (hG : ∀ a h, G a h = runDef 4 bTake a h) {m : Nat} {o : Ob} {g : Hv} (ho : TapeOb o) (hm : 0 < m) (hm2 : m < 1000000) : ∃ (r : Nat) (o' : Ob), r < m ∧ TapeOb o' ∧ G [.ref 0, .int m] (o :: g) = .ok (.int r) (o' :: g) := by
  obtain ⟨v, h', e, r, o', h0, h1, h2, rfl, rfl⟩ := ok_eq (take_sp (m := (m : Int)) (g := g) (P := fun v h => ∃ (r : Int) (o' : Ob), 0 ≤ r ∧ r < m ∧ TapeOb o' ∧ v = .int r ∧ h = o' :: g) (by omega) (by omega) ho fun r o' h0 h1 h2 => ⟨r, o', h0, h1, h2, rfl, rfl⟩)
  exact ⟨r.toNat, o', by omega, h2, by rw [hG, e, Int.toNat_of_nonneg h0]⟩
/-- the tape lies first -/
def Tp (g h : Hv) : Prop := ∃ o, TapeOb o ∧ h = o :: g
theorem take_tp {G : DF} (hG : ∀ a h, G a h = runDef 4 bTake a h) {m : Nat} {g h : Hv} (t : Tp g h) (hm : 0 < m) (hm2 : m < 1000000) : ∃ (r : Nat) (h' : Hv), r < m ∧ Tp g h' ∧ G [.ref 0, .int m] h = .ok (.int r) h' := by
  obtain ⟨o, ho, rfl⟩ := t
  obtain ⟨r, o', h1, h2, e⟩ := take_ex hG (g := g) ho hm hm2
  exact ⟨r, _, h1, ⟨o', h2, rfl⟩, e⟩
theorem tp_get {g h : Hv} (tp : Tp g h) (i : Nat) : h[i + 1]? = g[i]? := by
  obtain ⟨o, _, rfl⟩ := tp
  rfl
/-- a def that draws, and leaves lists behind -/
theorem tidy_tp {r : Res Val} {g h h' : Hv} {v : Val} {g' : Hv} (t : Tp g h) (t' : Tp (g ++ g') h') (e : r = .ok v h') (o : okV v = true) : ∃ h2, Tp g h2 ∧ tidy r h = .ok v h2 := by
  obtain ⟨a, ha, rfl⟩ := t
  obtain ⟨b, hb, rfl⟩ := t'
  refine ⟨b :: g, ⟨b, hb, rfl⟩, ?_⟩
  rw [e]
  unfold tidy
  simp only
  have kp : kept (a :: g).length (a :: g) (b :: (g ++ g')) := by
    refine ⟨by simp, fun i hi => ?_⟩
    cases i with
    | zero => exact .inr fun o e => by cases e; exact below_tape _ hb
    | succ i =>
      left
      simp only [List.getElem?_cons_succ]
      rw [List.getElem?_append_left (by simpa using hi)]
  rw [if_pos kp, frzs_self o]
  simp
/-- from a tape of the script on -/
theorem tape_ex {G : DF} (hG : ∀ a h, G a h = runDef 4 bTape a h) {ns : List Int} : ∃ h, Tp [] h ∧ G [.fz (ns.map .int)] [] = .ok (.ref 0) h := by
  obtain ⟨v, h', e, o, ho, rfl, rfl⟩ := ok_eq (tape_sp (ns := ns) (h := []) (P := fun v h => ∃ o, TapeOb o ∧ v = .ref 0 ∧ h = [o]) fun o ho => ⟨o, ho, rfl, rfl⟩)
  exact ⟨_, ⟨o, ho, rfl⟩, by rw [hG, e]⟩
end GH
set_option Elab.async false
set_option linter.all false
set_option maxRecDepth 100000
set_option maxHeartbeats 2000000
set_option autoImplicit false
/-! sorted(xs, key=f) over the heap, with an invariant that f's calls carry on; keys are texts or whole numbers. -/
namespace GH
open PySem PySem.W PySem.Calls PyProof.Rows
/-- a key value -/
def KeyV : PyData → Value → Prop
  | .int i, v => ∃ t, v = .int i t
  | .str x, v => ∃ t, v = .str x t
  | _, _ => False
theorem KeyV.reads {h : Heap} {d : PyData} {v : Value} (k : KeyV d v) : Reads h v d [] := by
  cases d <;> first | exact k.elim | (obtain ⟨t, rfl⟩ := k; first | exact .int _ _ | exact .str _ _)
theorem KeyV.plain {d : PyData} {v : Value} (k : KeyV d v) : d ≠ .none ∧ ∀ xs, d ≠ .tuple xs := by
  cases d <;> first | exact k.elim | exact ⟨(fun z => nomatch z), (fun xs z => nomatch z)⟩
theorem KeyV.flat {d : PyData} {v : Value} (k : KeyV d v) : d.depth ≤ 1 := by
  cases d <;> first | exact k.elim | (simp [PyData.depth])
theorem each_right {α γ : Type} {R : α → γ → Prop} : ∀ {as : List α} {cs : List γ}, EachIs R as cs → ∀ c ∈ cs, ∃ a ∈ as, R a c
  | _, _, .nil, c, h => by cases h
  | _, _, .cons h t, c, hc => by
    rcases List.mem_cons.mp hc with rfl | hc
    · exact ⟨_, List.mem_cons_self .., h⟩
    · obtain ⟨a, ha, r⟩ := each_right t c hc
      exact ⟨a, List.mem_cons_of_mem _ ha, r⟩
/-- the heap without the object at c -/
def noAt (h : Heap) (c : Addr) : Heap := h.update c fun _ => { cls := .none, data := .freed }
theorem noAt_self (h : Heap) (c : Addr) : (noAt h c).get? c = none := by
  cases e : (noAt h c).get? c with
  | none => rfl
  | some o =>
    exfalso
    obtain ⟨e1, e2⟩ := Heap.get?_some_iff.mp e
    unfold noAt at e1
    cases h with
    | mk objs life =>
      simp only [Heap.update, Array.getElem?_modify, if_true] at e1
      cases q : objs[c]? with
      | none => rw [q] at e1; cases e1
      | some o2 =>
        rw [q] at e1
        have e1 : some ({ cls := .none, data := .freed } : Obj) = some o := e1
        rw [← Option.some.inj e1] at e2
        exact absurd e2 (by decide)
theorem noAt_ne {h : Heap} {b c : Addr} (n : b ≠ c) : (noAt h c).get? b = h.get? b := Heap.get?_update_other h _ (Ne.symm n)
section
variable {prog : Program} {w : World} {A : Around} {E : Value → Shared → Prop} {s : Shared} {a kS : Addr} {b : Bool} {vs : List Value} {P : PySem.Fin → Shared → Prop} {β : Type} {bs : List β} {k : β → PyData} {R : Value → β → Prop}
theorem keyI_rest {f : Value} {e1 : Nat} (J : Nat → Shared → Prop) (hka : kS ≠ a) (nk : s.heap.get? kS = some (seqObj "list" #[] 0)) (na : s.heap.get? a = some (seqObj "list" #[] e1)) (e : EachIs R vs bs) (hZ : vs.length ≤ sizeLine) (hal : AllAlike (bs.map k)) (hu : A.units + 1 < cLine)
    (j0 : J 0 s) (st : ∀ i s h', Heap.SameBut kS s.heap h' → J i s → J i { s with heap := h' })
    (turn : ∀ (i : Nat) (v : Value) (x : β), vs[i]? = some v → bs[i]? = some x → ∀ (s : Shared) (kA : Array Value) (e : Nat), J i s → s.heap.get? kS = some (seqObj "list" kA e) → s.heap.get? a = some (seqObj "list" #[] e1) →
      wpAny (model prog w) A (call f [v]) (fun u s' => KeyV (k x) u ∧ J (i + 1) s' ∧ s'.heap.get? kS = some (seqObj "list" kA e) ∧ s'.heap.get? a = some (seqObj "list" #[] e1)) (fun _ _ => False) s)
    (fin : ∀ (s : Shared) (h' : Heap) (tk' : Nat) (out : List Value) (c : Nat), J vs.length s → (∀ b o, b ≠ a → b ≠ kS → s.heap.get? b = some o → h'.get? b = some o) → h'.get? a = some (seqObj "list" out.toArray c) → out.length = bs.length → EachIs R out (bs.mergeSort (dataLe b k)) → P (.done (.ret .none)) { s with heap := h', toks := tk' }) :
    wpAny (model prog w) A (ksk_rest a f b vs.toArray e1 (.ref kS)) P E s := by
  have len : bs.length = vs.length := e.length.symm
  unfold ksk_rest
  refine wpAny_bind (wpAny_rule ?_)
  first
    | rw [List.forIn_toArray]
    | (rw [← Array.forIn_toList]; simp only [List.toList_toArray])
    | rw [← Array.forIn_toList]
  refine wpAny_bind (ksk_fold (fun i s' => ∃ kA e, J i s' ∧ (s'.heap.get? kS = some (seqObj "list" kA e) ∧ s'.heap.get? a = some (seqObj "list" #[] e1)) ∧ EachIs (fun v x => KeyV (k x) v) kA.toList (bs.take i)) vs 0 s
    ⟨#[], 0, j0, ⟨nk, na⟩, by rw [List.take_zero]; exact EachIs.nil⟩ ?step ?done)
  case step =>
    rintro j x s' hx ⟨kA, e, hj, ⟨nk', na'⟩, hk⟩
    rw [Nat.zero_add] at hj hk ⊢
    have lj : j < vs.length := (List.getElem?_eq_some_iff.mp hx).1
    obtain ⟨y, hy⟩ : ∃ y, bs[j]? = some y := ⟨_, List.getElem?_eq_getElem (by omega)⟩
    have small : kA.size ≤ vs.length := by
      have q := hk.length
      rw [Array.length_toList, List.length_take] at q
      omega
    refine wpAny_bind (wpAny_attempt (wpAny_mono (turn j x y hx hy s' kA e hj nk' na') (fun u s'' q => ?_) fun _ _ z => z.elim))
    obtain ⟨ku, hj2, nk2, na2⟩ := q
    try dsimp only
    have sb := Heap.SameBut.update s''.heap kS (Obj.mapSeq (·.push u))
    refine wpAny_bind (listUpdate_at nk2 rfl ?_ (Nat.le_trans small hZ) (by rw [Array.size_push]; exact Nat.succ_le_succ (Nat.le_trans small hZ)))
    refine wpAny_pure ⟨rfl, kA.push u, _, st _ _ _ sb hj2, ⟨get?_update_seq nk2 (·.push u), (sb.2 a hka.symm).trans na2⟩, ?_⟩
    rw [Array.toList_push, List.take_add_one, hy]
    exact each_snoc (R := fun v x => KeyV (k x) v) ku hk
  case done =>
    rintro s' ⟨kA, e2, hj, ⟨nk', na'⟩, hk⟩
    rw [Nat.zero_add] at hj hk
    rw [List.take_of_length_le (by omega)] at hk
    have hk' : EachIs (fun v d => ∃ as, Reads s'.heap v d as) kA.toList (bs.map k) := each_map (R := fun v d => ∃ as, Reads s'.heap v d as) k (hk.mono fun v x q => ⟨[], q.reads⟩)
    have sz : kA.size = vs.length := by
      have q := hk.length
      rw [Array.length_toList] at q
      omega
    try dsimp only
    refine wpAny_bind (listItems_at nk' rfl ?_)
    have plain : ∀ d, d ∈ bs.map k → (d ≠ .none ∧ ∀ xs, d ≠ .tuple xs) ∧ d.depth ≤ 1 := fun d hd => by
      obtain ⟨x, hx, rfl⟩ := List.mem_map.mp hd
      obtain ⟨v, _, q⟩ := each_right hk x hx
      exact ⟨q.plain, q.flat⟩
    refine keyH_end (κ := dataKind s'.heap (bs.map k)) (h₁ := noAt s'.heap kS) (s := s') (fun b o _ q => ?_) (noAt_self s'.heap kS) nk' na' hka
      (SortsAt.data (s := s') hk' hal (.inr fun d hd => (plain d hd).1) fun d hd => by have := (plain d hd).2; omega) sz hZ fun h3 tk3 c k3 n3 => ?_
    · have : b ≠ kS := fun z => by rw [z, noAt_self] at q; cases q
      rwa [noAt_ne this] at q
    · have ko : KeyedOut b (bs.map k) vs (sortVals (dataKind s'.heap (bs.map k)) b kA.toList vs) := ⟨s'.heap, kA.toList, hal, rfl, hk'⟩
      exact fin s' h3 tk3 _ c hj (fun b o h1 h2 q => k3 b o h1 (by rw [noAt_ne h2]; exact q)) n3 ((ko.length (by rw [List.length_map]; exact len)).trans len.symm) (keyedOut_each k ko e)
end
end GH
set_option Elab.async false
set_option linter.all false
set_option maxRecDepth 100000
set_option maxHeartbeats 2000000
set_option autoImplicit false
/-! .. the whole call of sorted. -/
namespace GH
open PySem PySem.W PySem.Calls PyProof.Rows
section
variable {prog : Program} {w : World} {A : Around} {E : Value → Shared → Prop} {s : Shared} {a : Addr} {b : Bool} {vs : List Value} {β : Type} {bs : List β} {k : β → PyData} {R : Value → β → Prop}
theorem keyI_tree {f : Value} {n : Nat} {P : PySem.Fin → Shared → Prop} (J : Nat → Shared → Prop) (ho : s.heap.get? a = some (seqObj "list" vs.toArray n)) (e : EachIs R vs bs) (hZ : vs.length ≤ sizeLine) (hal : AllAlike (bs.map k)) (hu : A.units + 1 < cLine)
    (j0 : J 0 { s with heap := sortingHeap s.heap a vs }) (st : ∀ i s' h', Heap.SameBut (s.heap.objs.size + 1) s'.heap h' → J i s' → J i { s' with heap := h' })
    (turn : ∀ (i : Nat) (v : Value) (x : β), vs[i]? = some v → bs[i]? = some x → ∀ (s' : Shared) (kA : Array Value) (e e1 : Nat), J i s' → s'.heap.get? (s.heap.objs.size + 1) = some (seqObj "list" kA e) → s'.heap.get? a = some (seqObj "list" #[] e1) →
      wpAny (model prog w) A (call f [v]) (fun u s'' => KeyV (k x) u ∧ J (i + 1) s'' ∧ s''.heap.get? (s.heap.objs.size + 1) = some (seqObj "list" kA e) ∧ s''.heap.get? a = some (seqObj "list" #[] e1)) (fun _ _ => False) s')
    (fin : ∀ (s' : Shared) (h' : Heap) (tk' : Nat) (out : List Value) (c : Nat), J vs.length s' → (∀ b o, b ≠ a → b ≠ s.heap.objs.size + 1 → s'.heap.get? b = some o → h'.get? b = some o) → h'.get? a = some (seqObj "list" out.toArray c) → out.length = bs.length → EachIs R out (bs.mergeSort (dataLe b k)) → P (.done (.ret .none)) { s' with heap := h', toks := tk' }) :
    wpAny (model prog w) A (ksk_tree a f b) P E s := by
  have la : a < s.heap.objs.size := Heap.lt_size ho
  have ho1 := get?_update_seq ho fun _ => (#[] : Array Value)
  have sz : ((s.heap.update a (Obj.mapSeq fun _ => (#[] : Array Value))).push (seqObj "tuple" vs.toArray 0)).objs.size = s.heap.objs.size + 1 := by rw [size_push', Heap.size_update]
  unfold ksk_tree
  refine wpAny_bind (listItems_at ho rfl (wpAny_bind (listUpdate_at ho rfl ?_ (by rw [List.size_toArray]; exact hZ) (Nat.zero_le _))))
  refine wpAny_bind (seqEpoch_at ho1 rfl (wpAny_bind (wpAny_newTuple ?_ (by show vs.length ≤ _; exact hZ))))
  refine wpAny_bind (wpAny_newList (wpAny_holding ?_) (Nat.zero_le _))
  have ne : s.heap.objs.size + 1 ≠ a := Nat.ne_of_gt (Nat.lt_succ_of_lt la)
  have nk : (sortingHeap s.heap a vs).get? (s.heap.objs.size + 1) = some (seqObj "list" #[] 0) := by
    unfold sortingHeap
    rw [← sz]
    exact Heap.get?_push_size _ rfl
  have na := Heap.get?_push_of_some (seqObj "list" #[] 0) (Heap.get?_push_of_some (seqObj "tuple" vs.toArray 0) ho1)
  show wpAny (model prog w) A _ P E { s with heap := sortingHeap s.heap a vs }
  rw [sz]
  exact keyI_rest (s := { s with heap := sortingHeap s.heap a vs }) (kS := s.heap.objs.size + 1) J ne nk na e hZ hal hu j0 st (fun i v x h1 h2 s' kA e hj g1 g2 => turn i v x h1 h2 s' kA e _ hj g1 g2) fin
/-- sorted(xs, key=f), xs a list -/
theorem sorted_keyI {l f : Addr} {Q : Value → Shared → Prop} (J : Nat → Shared → Prop) (hl : s.heap.IsList l vs.toArray) (e : EachIs R vs bs) (hZ : vs.length ≤ sizeLine) (hal : AllAlike (bs.map k)) (hu : A.units + 3 < cLine)
    (j0 : J 0 { s with heap := sortingHeap (copyHeap s.heap vs) (s.heap.objs.size + 1) vs }) (st : ∀ i s' h', Heap.SameBut (s.heap.objs.size + 3) s'.heap h' → J i s' → J i { s' with heap := h' })
    (turn : ∀ (i : Nat) (v : Value) (x : β), vs[i]? = some v → bs[i]? = some x → ∀ (s' : Shared) (kA : Array Value) (e e1 : Nat), J i s' → s'.heap.get? (s.heap.objs.size + 3) = some (seqObj "list" kA e) → s'.heap.get? (s.heap.objs.size + 1) = some (seqObj "list" #[] e1) →
      wpAny (model prog w) A.in1.in1 (call (.ref f) [v]) (fun u s'' => KeyV (k x) u ∧ J (i + 1) s'' ∧ s''.heap.get? (s.heap.objs.size + 3) = some (seqObj "list" kA e) ∧ s''.heap.get? (s.heap.objs.size + 1) = some (seqObj "list" #[] e1)) (fun _ _ => False) s')
    (fin : ∀ (s' : Shared) (h' : Heap) (tk' : Nat) (out : List Value) (c : Nat), J vs.length s' → (∀ b o, b ≠ s.heap.objs.size + 1 → b ≠ s.heap.objs.size + 3 → s'.heap.get? b = some o → h'.get? b = some o) → h'.get? (s.heap.objs.size + 1) = some (seqObj "list" out.toArray c) → out.length = bs.length → EachIs R out (bs.mergeSort (dataLe false k)) →
      Q (.ref (s.heap.objs.size + 1)) { s' with heap := h', toks := tk' }) :
    wpAny (model prog w) A (call (.builtin "sorted") [.ref l] [(Str.ofString "key", .ref f)]) Q E s := by
  refine sorted_of_sort hl hZ (ksk_s1 _ _) (fun x => ksk_l1 _ _) fun E' => ?_
  rw [ksk_t1]
  have sz : (copyHeap s.heap vs).objs.size = s.heap.objs.size + 2 := by
    unfold copyHeap
    rw [size_push', Heap.size_update, size_push']
  have hu' : A.in1.in1.units + 1 < cLine := by
    show A.units + 1 + 1 + 1 < cLine
    omega
  have e3 : (copyHeap s.heap vs).objs.size + 1 = s.heap.objs.size + 3 := by rw [sz]
  refine keyI_tree (s := { s with heap := copyHeap s.heap vs }) J (copyHeap_at s.heap vs) e hZ hal hu' j0 (fun i s' h' sb => st i s' h' (by rw [← e3]; exact sb)) (fun i v x h1 h2 s' kA e e1 hj g1 g2 => ?_) fun s' h' tk' out c hj kp hd lo ee => ⟨rfl, fin s' h' tk' out c hj (fun b o h1 h2 q => kp b o h1 (by show b ≠ (copyHeap s.heap vs).objs.size + 1; rw [e3]; exact h2) q) hd lo ee⟩
  have g1 : s'.heap.get? ((copyHeap s.heap vs).objs.size + 1) = some (seqObj "list" kA e) := g1
  rw [e3] at g1
  refine wpAny_mono (turn i v x h1 h2 s' kA e e1 hj g1 g2) (fun u s'' q => ?_) fun _ _ z => z
  refine ⟨q.1, q.2.1, ?_, q.2.2.2⟩
  show s''.heap.get? ((copyHeap s.heap vs).objs.size + 1) = _
  rw [e3]
  exact q.2.2.1
end
end GH
set_option Elab.async false
set_option linter.all false
set_option maxRecDepth 100000
set_option maxHeartbeats 2000000
set_option autoImplicit false
/-! sorted(e, key=lambda x: body): the lambda has one parameter and no captured names. -/
namespace GH
open PySem PySem.Spec PyProof.Rows L2 LamX
variable [TheWorld]
section
variable {P : Program} {w : World} {K : PySem.W.Frag} {mg : Str → Option Value} {base : Heap}
/-- a call of the lambda's function object -/
theorem lam1_call {k : Nat} {A : Around} {outer : List Env} {s : Shared} {H : Hp} {f c' : Addr} {x q : Str} {params : Arguments} {body : Expr} {scope : Scope} {pm ctv : Value} {v : V} {u : Value} {Q : VK} {tb : TE}
    (hd : A.handled = none) (dp : A.depth < recursionLimit) (hk : ∀ env, Room k (A.deeper env)) (e0 : Env0 P w K mg base A outer s H) (of1 : s.heap.get? f = some (PySem.W.kla_obj "<lambda>" q params body scope [] pm c' ctv)) (co : H c' = some (CodeO c' q)) (S : FnScope [x] [x] scope)
    (hbind : ∀ u : Value, bindArgs (PySem.W.kla_fn "<lambda>" q params body scope [] pm (.ref c') ctv) ⟨[u], []⟩ = pure [(x, u)]) (r : RelV v u)
    (hbody : Room k (A.deeper (envOfC q scope s.heap.objs.size f (.ref c'))) → PE (cxOf (L2.CX P w) P w K mg base [x] q scope f (.ref c') A outer s H C8.E0) body tb) (ht : tb (L2.start [x] [v]) H Q) :
    codeAny (model P w) A (.call (.ref f) ⟨[u], []⟩) (CR (L2.CX P w) outer P w H s Q C8.E0) s := by
  obtain ⟨⟨oc, vs, t, hoc, hdc, hvc⟩, _, _⟩ := e0.hok c' _ co
  have lim : s.heap.NoLimit := e0.mod.nolimit.keeps fun b o e => (e0.bs b o e).1
  refine PySem.W.kla_callFunE dp of1 rfl S.co S.gen rfl ⟨c', oc, vs, t, rfl, hoc, hdc, hvc⟩ ?_
  rw [hbind u]
  have hkind : ∀ y ∈ [(x, u)], scope.names.lookup y.1 = some .local ∨ (scope.names.lookup y.1 = some .cell ∧ ((cellsFrom (s.heap.objs.size + 1) scope.names []).lookup y.1).isSome = true) := fun y hy => by
    rw [List.mem_singleton.mp hy]
    rcases S.par x (List.mem_singleton.mpr rfl) with z | z
    · exact .inl z
    · exact .inr ⟨z, PySem.W.cellsFrom_some _ _ _ (.inl z)⟩
  refine wpAny_pure (wpAny_newFunctionEnv_cells S.kind hkind fun env he s1 x1 => ?_)
  subst he
  refine ⟨lim.keeps x1.toInCall.keep, ?_⟩
  show codeAny _ _ (.expr body (envOfC q scope s.heap.objs.size f (.ref c'))) _ _
  have I : Inv (cxOf (L2.CX P w) P w K mg base [x] q scope f (.ref c') A outer s H C8.E0) [] (L2.start [x] [v]) H s1 := inv_start (us := [u]) S hd e0 rfl (.cons r .nil) x1
  refine PySem.W.kla_codeExpr (wpAny_mono ((hbody (hk _)).run [] _ _ H Q I ht) (fun v' s' hq => ?_) fun e s' hq => hq)
  obtain ⟨w', H', J', rv, q⟩ := hq
  exact ⟨w', H', J'.os, J'.bare, J'.base, J'.hok, rv, q⟩
end
end GH
set_option Elab.async false
set_option linter.all false
set_option maxRecDepth 100000
set_option maxHeartbeats 2000000
set_option autoImplicit false
namespace GH
open PySem PySem.Spec PyProof.Rows L2 LamX
variable [TheWorld]
/-- the value of a key -/
def KeyVV : PyData → V → Prop
  | .int i, v => v = .int i
  | .str x, v => v = .str x
  | _, _ => False
theorem KeyVV.to {d : PyData} {v : V} {u : Value} (k : KeyVV d v) (r : RelV v u) : KeyV d u := by
  cases d <;> first | exact k.elim | (subst k; exact r)
/-- what sorted asks of its list, the lambda's reading tb, and what it gives -/
def SK (K : PySem.W.Frag) (c' : Addr) (q x : Str) (tb : TE) : List V → Hp → VK → Prop := fun vs H Q => ∃ (l : Addr) (bs : List (V × PyData)) (JH : Nat → Hp → Prop), vs = [.ref l] ∧ SqL K H l (bs.map (·.1)) ∧ PySem.W.AllAlike (bs.map (·.2)) ∧ JH 0 H ∧ (∀ i H, JH i H → H c' = some (CodeO c' q)) ∧
  (∀ (i : Nat) (b : V × PyData) (H : Hp), bs[i]? = some b → JH i H → tb (L2.start [x] [b.1]) H fun kv H' => KeyVV b.2 kv ∧ JH (i + 1) H') ∧
  ∀ H', JH bs.length H' → ∀ p, H' p = none → Q (.ref p) (upd H' p (.lst ((bs.mergeSort (PySem.W.dataLe false (·.2))).map (·.1))))
theorem vals_each : ∀ {bs : List (V × PyData)} {vs : List Value}, Vals (bs.map (·.1)) vs → PySem.W.EachIs (fun v (b : V × PyData) => RelV b.1 v) vs bs
  | [], _, .nil => .nil
  | _ :: _, _, .cons r t => .cons r (vals_each t)
theorem each_vals : ∀ {bs : List (V × PyData)} {vs : List Value}, PySem.W.EachIs (fun v (b : V × PyData) => RelV b.1 v) vs bs → Vals (bs.map (·.1)) vs
  | _, _, .nil => .nil
  | _, _, .cons r t => .cons r (each_vals t)
section
variable {X : Cx}
theorem fp_of {pins : List (Addr × Obj)} {H H' : Hp} {b : Addr} (f : FpOk X pins H b) (n : H' b = none) : FpOk X pins H' b := ⟨n, f.2⟩
theorem frs_fs {σ : L2.St} {pins : List (Addr × Obj)} {H : Hp} {s : Shared} (I : Inv X pins σ H s) {f : Addr} (h : f ∉ frs X.stack) : f ∉ X.fs := fun z => by
  rcases I.ok.stk with e | ⟨e, hf⟩
  · rw [e] at h; exact h z
  · rw [e] at h
    unfold frs at h
    rw [List.filterMap_cons, hf] at h
    exact h (List.mem_cons_of_mem _ z)
theorem loc_ne {σ : L2.St} {pins : List (Addr × Obj)} {H : Hp} {s : Shared} (I : Inv X pins σ H s) {f : Addr} {o : Obj} (e : s.heap.get? f = some o) (hd : ∀ es ep, o.data ≠ .dict es ep) : f ≠ X.env.locals := fun z => by
  obtain ⟨m, ⟨o', es, ep, ho', hd', _⟩, _⟩ := I.loc
  rw [z, ho'] at e
  cases e
  exact hd es ep hd'
theorem run_sortKey {k : Nat} {f c' : Addr} {q x : Str} {params : Arguments} {body : Expr} {scope : Scope} {pm ctv : Value} {pins : List (Addr × Obj)} {σ : L2.St} {H : Hp} {s : Shared} {us : List Value} {vs : List V} {Q : VK} {tb : TE}
    (hr : Room (k + 1) X.A) (S : FnScope [x] [x] scope) (hbind : ∀ u : Value, bindArgs (PySem.W.kla_fn "<lambda>" q params body scope [] pm (.ref c') ctv) ⟨[u], []⟩ = pure [(x, u)])
    (hbody : ∀ (A : Around) (outer : List Env) (s : Shared) (H : Hp), Room k (A.deeper (envOfC q scope s.heap.objs.size f (.ref c'))) → PE (cxOf (L2.CX X.prog X.w) X.prog X.w X.K X.mg X.base [x] q scope f (.ref c') A outer s H C8.E0) body tb)
    (I : Inv X pins σ H s) (of1 : s.heap.get? f = some (PySem.W.kla_obj "<lambda>" q params body scope [] pm c' ctv)) (hfn : H f = none) (hfr : f ∉ frs X.stack) (r : Vals vs us) (h : SK X.K c' q x tb vs H Q) :
    wpAny (model X.prog X.w) X.A (call (.builtin "sorted") us [(Str.ofString "key", .ref f)]) (EP X pins σ Q) X.xe s := by
  obtain ⟨l, bs, JH, rfl, hs, al, j0, jc, jt, jd⟩ := h
  obtain rfl := Vals.ref1 r
  obtain ⟨its, rv, hl, hz⟩ := I.list hs
  have lb : its.length = bs.length := by rw [← rv.length, List.length_map]
  -- the function object is pinned
  obtain ⟨pf, epf⟩ : ∃ pf : Addr × Obj, (f, PySem.W.kla_obj "<lambda>" q params body scope [] pm c' ctv) = pf := ⟨_, rfl⟩
  have gf : s.heap.get? pf.1 = some pf.2 := by rw [← epf]; exact of1
  have Ip : Inv X (pf :: pins) σ H s := I.pins_of fun p hp => by
    rcases List.mem_cons.mp hp with rfl | hp
    · refine ⟨gf, by rw [← epf]; exact hfn, by rw [← epf]; exact loc_ne I of1 (fun es ep z => by cases z), by rw [← epf]; exact frs_fs I hfr, fun v z => ?_⟩
      rw [← epf] at z
      cases z
    · exact I.pin p (List.mem_append_right _ hp)
  obtain ⟨D, hD⟩ : ∃ D, s.heap.objs.size + 1 = D := ⟨_, rfl⟩
  obtain ⟨T, hT⟩ : ∃ T, s.heap.objs.size + 3 = T := ⟨_, rfl⟩
  have fD : FpOk X (pf :: pins) H D := Ip.fpOk (by rw [← hD]; exact Nat.le_succ _) (Ip.hok.fresh (by rw [← hD]; exact Nat.le_succ _))
  have fT : FpOk X (pf :: pins) H T := Ip.fpOk (by rw [← hT]; exact Nat.le_add_right _ _) (Ip.hok.fresh (by rw [← hT]; exact Nat.le_add_right _ _))
  have nDT : D ≠ T := by rw [← hD, ← hT]; intro z; exact absurd (Nat.add_left_cancel z) (by decide)
  refine sorted_keyI (A := X.A) (bs := bs) (k := (·.2)) (R := fun v (b : V × PyData) => RelV b.1 v) (fun i s' => ∃ H', Inv X (pf :: pins) σ H' s' ∧ JH i H' ∧ H' D = none ∧ H' T = none) hl.isList (vals_each rv) (by rw [lb]; rw [List.length_map] at hz; exact hz) al (by have := hr.un; omega)
    ⟨H, Ip.kept (t' := s.toks) fun b o e => PySem.W.sorting_copy_old e, j0, fD.1, fT.1⟩ ?st ?turn ?fin
  case st =>
    rintro i s' h' sb ⟨H', I', j, nD, nT⟩
    rw [hT] at sb
    exact ⟨H', I'.turnedL (t' := s'.toks) (ch := [T]) (fun b o hb e => (sb.2 b (fun z => hb (by simp [z]))).trans e) (fun b hb => by rw [List.mem_singleton.mp hb]; exact fp_of fT nT), j, nD, nT⟩
  case turn =>
    rintro i v b hv hb s' kA e e1 ⟨H', I', j, nD, nT⟩ gT gD
    rw [hT] at gT ⊢
    rw [hD] at gD ⊢
    have rb : RelV b.1 v := by
      have := (vals_each rv).zip (v, b) (List.mem_of_getElem? (i := i) (by rw [List.getElem?_zip_eq_some]; exact ⟨hv, hb⟩))
      exact this
    have I2 : Inv X ((T, seqObj "list" kA e) :: (D, seqObj "list" #[] e1) :: pf :: pins) σ H' s' := I'.pins_of fun p hp => by
      rcases List.mem_cons.mp hp with rfl | hp
      · exact ⟨gT, nT, fT.2.1, fT.2.2.1, fun v z => by cases z⟩
      rcases List.mem_cons.mp hp with rfl | hp
      · exact ⟨gD, nD, fD.2.1, fD.2.2.1, fun v z => by cases z⟩
      · exact I'.pin p (List.mem_append_right _ hp)
    have gf' : s'.heap.get? f = some (PySem.W.kla_obj "<lambda>" q params body scope [] pm c' ctv) := by
      have := (I'.pin pf (List.mem_append_right _ (List.mem_cons_self ..))).1
      rw [← epf] at this
      exact this
    have e0 := I2.env0
    have e1' : Env0 X.prog X.w X.K X.mg X.base X.A.in1.in1 X.stack s' H' := ⟨e0.frames, e0.mod, e0.bs, e0.bsz, e0.funs, e0.frf, e0.hok, e0.bare⟩
    have dp : X.A.in1.in1.depth < recursionLimit := by
      have := hr.dp
      show X.A.depth < recursionLimit
      omega
    have hk : ∀ env, Room k (X.A.in1.in1.deeper env) := fun env => ⟨hr.hd, by have := hr.dp; show X.A.depth + 1 + 3 * k + 5 < _; omega, by have := hr.un; show X.A.units + 1 + 1 + 3 + 16 * k + 200 < _; omega⟩
    have rc := lam1_call (A := X.A.in1.in1) (Q := fun kv H'' => KeyVV b.2 kv ∧ JH (i + 1) H'') hr.hd dp hk e1' gf' (jc i H' j) S hbind rb (fun hk => hbody _ _ _ _ hk) (jt i b H' hb j)
    refine wpAny_call (codeAny_mono rc fun r s'' hq => ?_)
    cases r with
    | error e =>
      obtain ⟨_, _, _, _, _, _, _, _, _, _, _, _, z⟩ := hq
      exact (show False from z).elim
    | ok fl =>
      cases fl with
      | ret u =>
        obtain ⟨kv, H'', I3, rk, q1, q2⟩ := I2.after hq
        have pT := I3.pin (T, seqObj "list" kA e) (List.mem_append_right _ (List.mem_cons_self ..))
        have pD := I3.pin (D, seqObj "list" #[] e1) (List.mem_append_right _ (List.mem_cons_of_mem _ (List.mem_cons_self ..)))
        exact ⟨q1.to rk, ⟨H'', I3.pins_of fun p hp => I3.pin p (List.mem_append_right _ (List.mem_cons_of_mem _ (List.mem_cons_of_mem _ hp))), q2, pD.2.1, pT.2.1⟩, pT.1, pD.1⟩
      | next => exact False.elim hq
      | brk => exact False.elim hq
      | cont => exact False.elim hq
  case fin =>
    rintro s' h' tk' out c ⟨H', I', j, nD, nT⟩ kp gD lo eo
    rw [hD] at gD ⊢
    rw [hD, hT] at kp
    rw [lb] at j
    have I1 : Inv X (pf :: pins) σ H' { s' with heap := h', toks := tk' } := I'.turnedL (ch := [D, T]) (fun b o hb e => kp b o (fun z => hb (by simp [z])) (fun z => hb (by simp [z])) e) (fun b hb => by
      rcases List.mem_cons.mp hb with rfl | hb
      · exact fp_of fD nD
      · rw [List.mem_singleton.mp hb]; exact fp_of fT nT)
    have lz : ((bs.mergeSort (PySem.W.dataLe false (·.2))).map (·.1)).length ≤ sizeLine := by
      rw [List.length_map, List.length_mergeSort]
      rw [List.length_map] at hz
      exact hz
    have I3 : Inv X (pf :: pins) σ (upd H' D (.lst ((bs.mergeSort (PySem.W.dataLe false (·.2))).map (·.1)))) { s' with heap := h', toks := tk' } := I1.take (h' := h') (t' := tk') (fun b ob _ e => e) (fp_of fD nD) ⟨lz, out, c, each_vals eo, gD⟩
    refine ⟨.ref D, _, I3.pins_of fun p hp => I3.pin p (List.mem_append_right _ (List.mem_cons_of_mem _ hp)), rfl, jd H' j D nD⟩
end
end GH
set_option Elab.async false
set_option linter.all false
set_option maxRecDepth 100000
set_option maxHeartbeats 2000000
set_option autoImplicit false
/-! sorted(e, key=lambda x: body) as a denotation. -/
namespace GH
open PySem PySem.Spec PyProof.Rows L2 LamX
variable [TheWorld]
/-- a key: a whole number or a text -/
def keyD : Val → Option PyData
  | .int i => some (.int i)
  | .str s => some (.str (sOf s))
  | _ => none
/-- the keys of some items; their reading changes nothing -/
noncomputable def keysOf (db : Den) (h : Hv) : List Val → Option (List PyData)
  | [] => some []
  | x :: xs => match db [some x] h with
    | .ok kv h' => open Classical in if h' = h then (keyD kv).bind fun k => (keysOf db h xs).map (k :: ·) else none
    | _ => none
def alikeB (ks : List PyData) : Bool := ks.all fun a => ks.all fun b => PySem.W.alike a b
noncomputable def sortKeyed (ps : List (Val × PyData)) : List Val := (ps.mergeSort (PySem.W.dataLe false (·.2))).map (·.1)
noncomputable def dSortKey (nm : List Nat) (i : Nat) (d db : Den) : Den := fun l h => (d l h).bind fun v h1 => match lstOf h1 v, h1[i]? with
  | some xs, some (.tbl q) => if q = nm then (match keysOf db h1 xs with
    | some ks => if alikeB ks = true then .ok (.lst (sortKeyed (xs.zip ks))) h1 else .fail
    | none => .fail) else .fail
  | _, _ => .fail
theorem keysOf_len {db : Den} {h : Hv} : ∀ {xs : List Val} {ks : List PyData}, keysOf db h xs = some ks → xs.length = ks.length
  | [], ks, e => by cases e; rfl
  | x :: xs, ks, e => by
    unfold keysOf at e
    split at e
    · split at e
      · obtain ⟨k, _, e⟩ := Option.bind_eq_some_iff.mp e
        obtain ⟨ks', e1, rfl⟩ := Option.map_eq_some_iff.mp e
        rw [List.length_cons, List.length_cons, keysOf_len e1]
      · cases e
    · cases e
theorem keysOf_at {db : Den} {h : Hv} : ∀ {xs : List Val} {ks : List PyData}, keysOf db h xs = some ks → ∀ {i : Nat} {x : Val} {k : PyData}, xs[i]? = some x → ks[i]? = some k → ∃ kv, db [some x] h = .ok kv h ∧ keyD kv = some k
  | [], ks, e, i, x, k, h1, h2 => by cases h1
  | y :: xs, ks, e, i, x, k, h1, h2 => by
    unfold keysOf at e
    split at e
    · rename_i kv h' ed
      split at e
      · rename_i eh
        subst eh
        obtain ⟨k0, e0, e⟩ := Option.bind_eq_some_iff.mp e
        obtain ⟨ks', e1, rfl⟩ := Option.map_eq_some_iff.mp e
        cases i with
        | zero =>
          cases h1
          cases h2
          exact ⟨kv, ed, e0⟩
        | succ i => exact keysOf_at e1 (i := i) (by simpa using h1) (by simpa using h2)
      · cases e
    · cases e
section
variable {K : PySem.W.Frag} {g g' : Gh} {H H' : Hp} {h : Hv}
/-- a code object is none of ours -/
theorem codeO_no (R : HR K g H h) (nc : ∀ c q xs, H c = some (CodeO c q) → CodeO c q ≠ DN c xs) {c : Addr} {q : Str} (e : H c = some (CodeO c q)) : c ∉ g.m := fun hm => by
  obtain ⟨i, hi, ei⟩ := List.getElem_of_mem hm
  have hi' : i < h.length := by rw [← R.len]; exact hi
  have z := R.obj i h[i] c (by simp [hi']) (by rw [← ei]; simp [hi])
  cases ho : h[i] with
  | lst l => rw [ho] at z; obtain ⟨xs, z, _⟩ := z; rw [e] at z; unfold CodeO at z; cases z
  | dic l => rw [ho] at z; obtain ⟨xs, z, _⟩ := z; rw [e] at z; unfold CodeO at z; cases z
  | ins l f => rw [ho] at z; obtain ⟨_, xs, z, _⟩ := z; rw [e] at z; unfold CodeO at z; cases z
  | dn l =>
    rw [ho] at z
    obtain ⟨xs, ys, z, _⟩ := z
    exact nc c q xs e (Option.some.inj (e.symm.trans z))
  | tbl t => rw [ho] at z; obtain ⟨_, ps, z, _⟩ := z; rw [e] at z; unfold CodeO at z; cases z
theorem fre_no {H : Hp} {c : Addr} {q : Str} (z : Fre H c) (e : H c = some (CodeO c q)) : False := by
  obtain ⟨ps, z⟩ := z _ e
  unfold CodeO at z
  cases z
theorem vrs_zip {T : Type} (a : T → Val) (b : T → V) : ∀ {L : List T}, (∀ t ∈ L, VR K g H (a t) (b t)) → VRs K g H (L.map a) (L.map b)
  | [], _ => .nil
  | t :: L, q => .cons (q t (List.mem_cons_self ..)) (vrs_zip a b fun u hu => q u (List.mem_cons_of_mem _ hu))
theorem zip3_l : ∀ {xs : List Val} {ys : List V} {ks : List PyData}, xs.length = ks.length → ys.length = ks.length → (((xs.zip ys).zip ks).map fun t => (t.1.1, t.2)) = xs.zip ks
  | [], [], [], _, _ => rfl
  | x :: xs, y :: ys, k :: ks, a, b => by
    have := zip3_l (xs := xs) (ys := ys) (ks := ks) (by simpa using a) (by simpa using b)
    simp only [List.zip_cons_cons, List.map_cons, this]
  | [], _ :: _, _, a, b => by simp at a b; omega
  | _ :: _, [], _, a, b => by simp at a b; omega
  | x :: xs, y :: ys, [], a, b => by simp at a
  | [], [], _ :: _, a, b => by simp at a
theorem zip3_r : ∀ {xs : List Val} {ys : List V} {ks : List PyData}, xs.length = ks.length → ys.length = ks.length → (((xs.zip ys).zip ks).map fun t => (t.1.2, t.2)) = ys.zip ks
  | [], [], [], _, _ => rfl
  | x :: xs, y :: ys, k :: ks, a, b => by
    have := zip3_r (xs := xs) (ys := ys) (ks := ks) (by simpa using a) (by simpa using b)
    simp only [List.zip_cons_cons, List.map_cons, this]
  | [], _ :: _, _, a, b => by simp at a b; omega
  | _ :: _, [], _, a, b => by simp at a b; omega
  | x :: xs, y :: ys, [], a, b => by simp at a
  | [], [], _ :: _, a, b => by simp at a
/-- the same order on both sides -/
theorem sort_both {L : List ((Val × V) × PyData)} (q : ∀ t ∈ L, VR K g H t.1.1 t.1.2) : VRs K g H (sortKeyed (L.map fun t => (t.1.1, t.2))) (((L.map fun t => (t.1.2, t.2)).mergeSort (PySem.W.dataLe false (·.2))).map (·.1)) := by
  have e1 : (L.mergeSort (PySem.W.dataLe false (·.2))).map (fun t => (t.1.1, t.2)) = (L.map fun t => (t.1.1, t.2)).mergeSort (PySem.W.dataLe false (·.2)) := List.map_mergeSort fun a _ b _ => rfl
  have e2 : (L.mergeSort (PySem.W.dataLe false (·.2))).map (fun t => (t.1.2, t.2)) = (L.map fun t => (t.1.2, t.2)).mergeSort (PySem.W.dataLe false (·.2)) := List.map_mergeSort fun a _ b _ => rfl
  unfold sortKeyed
  rw [← e1, ← e2, List.map_map, List.map_map]
  exact vrs_zip _ _ fun t ht => q t ((List.mergeSort_perm L _).mem_iff.mp ht)
theorem start1 {x : Str} {v : Val} {y : V} (r : VR K g H v y) : SR K g H [some v] (L2.start [x] [y]) := by
  refine ⟨rfl, fun i u e => ?_⟩
  cases i with
  | zero =>
    cases e
    exact ⟨y, rfl, r⟩
  | succ i => cases e
end
theorem ge_sortKey {X : Cx} {W : WX} (nm : List Nat) (i : Nat) {e : Expr} {d db : Den} {k : Nat} {x y : Str} {params : Arguments} {body : Expr} {scope : Scope} {p lpos kpos pos : Pos} (hm : X.mg y = none) (he : GE X W e d)
    (hq : X.env.qual ++ "<lambda>" = qualL nm) (TB : TabB X.base X.mg (He.codeOf X.K (sOf nm, none)) (tabA X.K nm)) (hcode : X.env.code = .ref (He.codeOf X.K (sOf nm, none))) (hr : Room (k + 1) X.A) (S : FnScope [x] [x] scope) (hdef : defaultsOf params X.env = ([], [])) (hclo : cloFrom X.env.cells scope.names [] = [])
    (hbind : ∀ (q : Str) (pm cv ctv u : Value), bindArgs (PySem.W.kla_fn "<lambda>" q params body scope [] pm cv ctv) ⟨[u], []⟩ = pure [(x, u)])
    (hd : ∀ (A : Around) (outer : List Env) (s : Shared) (H : Hp) (f c' : Addr), Room k (cxOf (L2.CX X.prog X.w) X.prog X.w X.K X.mg X.base [x] (X.env.qual ++ "<lambda>") scope f (.ref c') A outer s H C8.E0).A → (cxOf (L2.CX X.prog X.w) X.prog X.w X.K X.mg X.base [x] (X.env.qual ++ "<lambda>") scope f (.ref c') A outer s H C8.E0).A.units + 200 < cLine → (cxOf (L2.CX X.prog X.w) X.prog X.w X.K X.mg X.base [x] (X.env.qual ++ "<lambda>") scope f (.ref c') A outer s H C8.E0).A.units + 1 < cLine → GE (cxOf (L2.CX X.prog X.w) X.prog X.w X.K X.mg X.base [x] (X.env.qual ++ "<lambda>") scope f (.ref c') A outer s H C8.E0) W0 body db)
    (hg : Gl X y := by rfl) (hv : bootBuiltins y = some (.builtin "sorted") := by decide +kernel) (hn : y ≠ "__name__" := by decide +kernel) (hdb : (y == ("__debug__" : Str)) = false := by decide +kernel) (hfree : ∀ z ∈ scope.names, z.2 = .free → ∃ c, X.env.cells.lookup z.1 = some c := by intro z hz e; exfalso; revert z; decide +kernel)
    (hs : starEach [e] X.env = (false, eval e X.env) :: starEach [] X.env := by rfl) (hb : backTo pos (starEach [e] X.env) = (false, eval e X.env) :: backTo pos (starEach [] X.env) := by rfl) (hpl : (backTo pos (starEach [e] X.env)).any (·.1) = false := by rfl) :
    GE X W (.Call (.Name y p) [e] [⟨some "key", .Lambda params body scope lpos, kpos⟩] pos) (dSortKey nm i d db) := by
  refine ⟨fun pins s σ H Q I ⟨g, l, h, S0, R, A⟩ => ?_⟩
  unfold dSortKey at A
  have start : tCons (tG X.K W (vr X.K) d) tNil σ H fun vs H1 => ∃ v h1 g1 z, vs = [z] ∧ SR X.K g1 H1 l σ ∧ HR X.K g1 H1 h1 ∧ VR X.K g1 H1 v z ∧ After X.K W (vr X.K) σ g1 H1 Q (match lstOf h1 v, h1[i]? with
      | some xs, some (.tbl q) => if q = nm then (match keysOf db h1 xs with
        | some ks => if alikeB ks = true then .ok (.lst (sortKeyed (xs.zip ks))) h1 else .fail
        | none => .fail) else .fail
      | _, _ => .fail) := tG_of S0 R A fun v h1 g1 H1 z E S1 R1 r1 A1 => ⟨v, h1, g1, z, rfl, S1, R1, r1, A1⟩
  refine wpAny_Call_Name_kw (ld_blt I hg hm hv ?_ hn hdb)
  refine PyProof.Rows.callWith_kw (thn ((pa_cons he pa_nil hs).run pos pins s σ H _ I start) fun us s1 ⟨vs, H1, I1, r1, q1⟩ => ?_) hb hpl rfl rfl
  obtain ⟨v, h1, g1, z, rfl, S1, R1, rv, A1⟩ := q1
  split at A1
  case h_2 => exact A1.elim
  rename_i xs q hl ht
  split at A1
  case isFalse => exact A1.elim
  rename_i eq
  subst eq
  split at A1
  case h_2 => exact A1.elim
  rename_i ks hk
  split at A1
  case isFalse => exact A1.elim
  rename_i hal
  have hi : i < g1.m.length := by rw [R1.len]; exact (List.getElem?_eq_some_iff.mp ht).1
  have e2 : g1.m[i]? = some g1.m[i] := by simp [hi]
  obtain ⟨eP, _⟩ := R1.obj i _ _ ht e2
  rw [eP] at e2
  obtain ⟨m1, m2⟩ := tabs_one R1 ht e2
  show wpAny _ _ (evalAll ((do let v ← eval (.Lambda params body scope lpos) X.env; standAt pos; pure v) :: [])) _ _ s1
  refine wpAny_evalAll_cons (wpAny_bind (lam_make2 I1 TB hcode (by rw [hq]; exact m1) (by rw [hq]; exact m2) (tabs_of R1) hdef hfree fun f c' pm ctv H2 s2 I2 eN T2 hf hfn hfr hco => wpAny_bind (wpAny_standAt (wpAny_pure (wpAny_evalAll_nil ?_)))))
  rw [hclo] at hf
  show wpAny _ _ (call (.builtin "sorted") us [(Str.ofString "key", .ref f)]) _ _ s2
  obtain ⟨E2, R2⟩ := tabs_ext R1 (fun c q xs e => codeO_dn I1.hok e) eN T2
  have rv2 := rv.ext R1 E2
  obtain ⟨a, ys, rfl, sq, rs⟩ := lstOf_ok R2 rv2 hl
  have lyk : ys.length = ks.length := by rw [← rs.length]; exact keysOf_len hk
  have lx : xs.length = ks.length := keysOf_len hk
  have noc : c' ∉ g1.m := codeO_no R2 (fun c q xs e => codeO_dn I2.hok e) hco
  refine run_sortKey (k := k) (x := x) (tb := tG X.K W0 (vr X.K) db) hr S (fun u => hbind _ _ _ _ u) (fun A outer s H hk => hd A outer s H f c' hk (by have := hk.un; show (A.deeper _).units + 200 < cLine; omega) (by have := hk.un; show (A.deeper _).units + 1 < cLine; omega)) I2 hf hfn hfr r1 ?_
  refine ⟨a, ys.zip ks, fun j H' => ∃ g', Ext g1 H2 g' H' ∧ HR X.K g' H' h1 ∧ H' c' = some (CodeO c' _), rfl, ?_, ?_, ⟨g1, Ext.refl, R2, hco⟩, fun j H' ⟨_, _, _, z⟩ => z, ?_, ?_⟩
  · have e5 : (ys.zip ks).map (·.1) = ys := List.map_fst_zip (by omega)
    rw [e5]
    exact SqL.of sq
  · have e5 : (ys.zip ks).map (·.2) = ks := List.map_snd_zip (by omega)
    rw [e5]
    intro a ha b hb
    exact List.all_eq_true.mp (List.all_eq_true.mp hal a ha) b hb
  · rintro j ⟨y1, k1⟩ H' hj ⟨g', E', R', co⟩
    obtain ⟨hy, hk1⟩ := List.getElem?_zip_eq_some.mp hj
    obtain ⟨v1, hv1, rv1⟩ := rs.get' hy
    obtain ⟨kv, ed, ek⟩ := keysOf_at hk hv1 hk1
    refine ⟨g', [some v1], h1, start1 (rv1.ext R2 E'), R', ?_⟩
    rw [ed]
    intro g'' H'' w' E'' R'' rw'
    refine ⟨?_, g'', E'.trans E'', R'', E''.keepN c' _ co (fun ps => codeO_ne ps) (fun z => ?_)⟩
    · cases kv with
      | int n => cases ek; simp only [VR] at rw'; exact rw'
      | str t => cases ek; simp only [VR] at rw'; exact rw'
      | _ => cases ek
    · obtain ⟨t, e6, e7⟩ := E'.m
      rw [e6] at z
      rcases List.mem_append.mp z with z | z
      · exact noc z
      · exact fre_no (e7 _ z) hco
  · rintro H' ⟨g', E', R', co⟩ p' np
    have q : VRs X.K g' H' (sortKeyed (xs.zip ks)) (((ys.zip ks).mergeSort (PySem.W.dataLe false (·.2))).map (·.1)) := by
      have := sort_both (K := X.K) (g := g') (H := H') (L := (xs.zip ys).zip ks) fun t ht => by
        obtain ⟨⟨v0, y0⟩, k0⟩ := t
        have hm := (List.of_mem_zip ht).1
        obtain ⟨j, hj⟩ := List.mem_iff_getElem?.mp hm
        obtain ⟨h5, h6⟩ := List.getElem?_zip_eq_some.mp hj
        obtain ⟨v5, h7, h8⟩ := rs.get' h6
        have : v0 = v5 := Option.some.inj (h5.symm.trans h7)
        rw [this]
        exact h8.ext R2 E'
      rw [zip3_l, zip3_r] at this
      · exact this
      all_goals omega
    obtain ⟨E4, R4⟩ := R'.grow (o := .lst (((ys.zip ks).mergeSort (PySem.W.dataLe false (·.2))).map (·.1))) np
    refine A1 g' _ (.ref p') (E2.trans (E'.trans E4)) R4 ?_
    simp only [VR]
    exact ⟨p', _, rfl, R'.fresh np, upd_same, q.ext R' E4⟩
end GH
set_option Elab.async false
set_option linter.all false
set_option maxRecDepth 100000
set_option maxHeartbeats 2000000
set_option autoImplicit false
/-! levels that cost more than one; tables of several defs; the tape behind any objects. -/
namespace GH
open PySem PySem.Spec PyProof.Rows L2
variable [TheWorld]
theorem levelsC (c : Nat) {P : Program} {w : World} {K : PySem.W.Frag} {mg : Str → Option Value} {base : Heap} {sig : List (Str × List Str)} {D : Gam → Gam}
    (h0 : ∀ (j : Nat) (x : Str) (ps : List Str), sig[j]? = some (x, ps) → mg x = some (.ref (He.ga K x)) ∧ PySem.W.keepIn K (.ref (He.ga K x)) = true ∧ ∃ fd, Binds K fd ps [])
    (step : ∀ k Γ, AllK P w K mg base sig (c * k) Γ → ∀ (j : Nat) (x : Str) (ps : List Str), sig[j]? = some (x, ps) → FnK P w K mg base (c * (k + 1)) (D Γ j) x ps) : ∀ k, AllK P w K mg base sig (c * k) (lev D k)
  | 0 => fun j x ps e => by
    obtain ⟨g, kp, fd, b⟩ := h0 j x ps e
    refine ⟨⟨fd, ⟨fun vs H Q E h => h.1, fun A outer s H args us vs Q E hr he hb hv hs => ?_⟩, b⟩, g, kp⟩
    obtain ⟨_, _, _, _, _, _, z⟩ := hs
    exact z.elim
  | k + 1 => step k _ (levelsC c h0 step k)
/-- the tables are different objects -/
def ndB (K : PySem.W.Frag) (nms : List (List Nat)) : Bool := decide ((nms.map (tabA K)).Nodup)
theorem ndB_ok {K : PySem.W.Frag} {nms : List (List Nat)} (h : ndB K nms = true) : (nms.map (tabA K)).Nodup := of_decide_eq_true h
end GH
set_option Elab.async false
set_option linter.all false
set_option maxRecDepth 100000
set_option maxHeartbeats 2000000
set_option autoImplicit false
namespace L02
open PySem PySem.Spec PyProof.Rows L2 GH
variable [TheWorld]
def top (i : Nat) : Stmt := PySem.Challenge.pw_grovehouse_k02_all_shapes_of_a_size.main.body.getD i (.Pass ⟨0, 0, 0, 0⟩)
def mth (i j : Nat) : Stmt := match top i with
  | .ClassDef _ _ _ b _ _ _ _ _ _ _ => b.getD j (.Pass ⟨0, 0, 0, 0⟩)
  | s => s

noncomputable def b_check_kind (Γ : Gam) : Stm := (sSeq (sAsg (dVar 0) (gTup 2 (gsCons (gName 1) (gsCons (gName 2) gsNil))))
    (sSeq (sIf (dOr (dB (dBin vNotIn (dVar 1) (dTup (dCons (dC (.int 1)) (dCons (dC (.int 2)) dNil))))) (dOr (dNot (dB (dChain vLe vLe (dC (.int 1)) (dLen (dVar 2)) (dC (.int 3))))) (dB (dBin vNe (dFn vList (dVar 2)) (dFn vSortSet (dVar 2)))))) (sSeq (sRaise [73, 110, 118, 97, 108, 105, 100, 75, 105, 110, 100])
    sNext) sNext)
    (sSeq (sIf (dNot (dTru (dFn vAll (dLc frozen [3] (iSeq (dVar 2)) (gName 3) dYes (dAndV (dBin vEq (dLen (dVar 3)) (dC (.int 1))) (dBin vIn (dVar 3) (dC (.str [97, 98, 99, 100, 101, 102, 103, 104, 105, 106, 107, 108, 109, 110, 111, 112, 113, 114, 115, 116, 117, 118, 119, 120, 121, 122])))))))) (sSeq (sRaise [73, 110, 118, 97, 108, 105, 100, 75, 105, 110, 100])
    sNext) sNext)
    sNext)))
noncomputable def d_check_kind (Γ : Gam) : DF := fun args h => runDef 4 (b_check_kind Γ) args h
noncomputable def b_write_shape (Γ : Gam) : Stm := (sSeq (sAsg (dLstM dNil) (gName 1))
    (sSeq (sAsg (dLstM (dCons (dVar 0) dNil)) (gName 2))
    (sSeq (sWhile (dTru (dVar 2)) (sSeq (sAsg (dMeth0 isLst vPop (dVar 2)) (gName 3))
    (sSeq (sIf (dTru (dIsi .str (dVar 3))) (sSeq (sExpr (dMeth1 isLst vAppend (dVar 1) (dVar 3)))
    sNext) (sSeq (sIf (dNot (dTru (dVar 3))) (sSeq (sExpr (dMeth1 isLst vAppend (dVar 1) (dC (.str [46]))))
    sNext) (sSeq (sIf (dB (dBin vEq (dLen (dVar 3)) (dC (.int 2)))) (sSeq (sExpr (dMeth1 isLst vAppend (dVar 1) (dBin vIx (dVar 3) (dC (.int 0)))))
    (sSeq (sExpr (dMeth1 isLst vAppend (dVar 2) (dBin vIx (dVar 3) (dC (.int 1)))))
    sNext)) (sSeq (sExpr (dMeth1 isLst vAppend (dVar 1) (dBin vIx (dVar 3) (dC (.int 0)))))
    (sSeq (sExpr (dMeth1 isLst (fun x v h => if (lstOf h v).isSome then vExtend x v h else .fail) (dVar 2) (dLst (dCons (dC (.str [41])) (dCons (dBin vIx (dVar 3) (dC (.int 2))) (dCons (dC (.str [44])) (dCons (dBin vIx (dVar 3) (dC (.int 1))) (dCons (dC (.str [40])) dNil))))))))
    sNext)))
    sNext))
    sNext))
    sNext)))
    (sSeq (sRet (dMeth1 isStr vJoin (dC (.str [])) (dVar 1)))
    sNext))))
noncomputable def d_write_shape (Γ : Gam) : DF := fun args h => tidy (runDef 4 (b_write_shape Γ) args h) h
noncomputable def b_shape_counts (Γ : Gam) : Stm := (sSeq (sAsg (dVar 0) (gTup 2 (gsCons (gName 4) (gsCons (gName 5) gsNil))))
    (sSeq (sAsg (dLstM (dCons (dC (.int 1)) dNil)) (gName 2))
    (sSeq (sFor (iRange2 (dC (.int 1)) (dBin vAdd (dVar 1) (dC (.int 1)))) (gName 3) (sSeq (sIf (dB (dBin vEq (dVar 4) (dC (.int 1)))) (sSeq (sExpr (dMeth1 isLst vAppend (dVar 2) (dBin vMul (dLen (dVar 5)) (dBin vIx (dVar 2) (dNeg (dC (.int 1)))))))
    sNext) (sSeq (sAsg (dFn vSum (dLc frozen [7] (iRange1 (dVar 3)) (gName 7) dYes (dBin vMul (dBin vIx (dVar 2) (dVar 7)) (dBin vIx (dVar 2) (dBin vSub (dBin vSub (dVar 3) (dC (.int 1))) (dVar 7)))))) (gName 6))
    (sSeq (sExpr (dMeth1 isLst vAppend (dVar 2) (dBin vMul (dLen (dVar 5)) (dVar 6))))
    sNext)))
    sNext))
    (sSeq (sRet (dVar 2))
    sNext))))
noncomputable def d_shape_counts (Γ : Gam) : DF := fun args h => tidy (runDef 8 (b_shape_counts Γ) args h) h
noncomputable def b_all_shapes (Γ : Gam) : Stm := (sSeq (sExpr (dCall (Γ 0) (dCons (dVar 0) dNil)))
    (sSeq (sIf (dB (dBin vGt (dBin vIx (dCall (Γ 2) (dCons (dVar 0) (dCons (dVar 1) dNil))) (dVar 1)) (dC (.int 20000)))) (sSeq (sRaise [84, 111, 111, 76, 97, 114, 103, 101])
    sNext) sNext)
    (sSeq (sAsg (dVar 0) (gTup 2 (gsCons (gName 4) (gsCons (gName 5) gsNil))))
    (sSeq (sAsg (dLstM (dCons (dLst (dCons (dTup dNil) dNil)) dNil)) (gName 2))
    (sSeq (sFor (iRange2 (dC (.int 1)) (dBin vAdd (dVar 1) (dC (.int 1)))) (gName 3) (sSeq (sAsg (dLstM dNil) (gName 6))
    (sSeq (sFor (iSeq (dVar 5)) (gName 7) (sSeq (sIf (dB (dBin vEq (dVar 4) (dC (.int 1)))) (sSeq (sExpr (dMeth1 isLst (fun x v h => if (lstOf h v).isSome then vExtend x v h else .fail) (dVar 6) (dLc frozen [12] (iSeq (dBin vIx (dVar 2) (dBin vSub (dVar 3) (dC (.int 1))))) (gName 12) dYes (dTup (dCons (dVar 7) (dCons (dVar 12) dNil))))))
    (sSeq sCont
    sNext)) sNext)
    (sSeq (sFor (iRange1 (dVar 3)) (gName 8) (sSeq (sFor (iSeq (dBin vIx (dVar 2) (dVar 8))) (gName 9) (sSeq (sExpr (dMeth1 isLst (fun x v h => if (lstOf h v).isSome then vExtend x v h else .fail) (dVar 6) (dLc frozen [13] (iSeq (dBin vIx (dVar 2) (dBin vSub (dBin vSub (dVar 3) (dC (.int 1))) (dVar 8)))) (gName 13) dYes (dTup (dCons (dVar 7) (dCons (dVar 9) (dCons (dVar 13) dNil)))))))
    sNext))
    sNext))
    sNext)))
    (sSeq (sExpr (dMeth1 isLst vAppend (dVar 2) (dVar 6)))
    sNext))))
    (sSeq (sRet (dLc frozen [10, 11] (iSeq (dFn vSorted (dLc frozen [11] (iSeq (dBin vIx (dVar 2) (dVar 1))) (gName 11) dYes (dTup (dCons (dCall (Γ 1) (dCons (dVar 11) dNil)) (dCons (dVar 11) dNil)))))) (gTup 2 (gsCons (gName 10) (gsCons (gName 11) gsNil))) dYes (dVar 11)))
    sNext))))))
noncomputable def d_all_shapes (Γ : Gam) : DF := fun args h => tidy (runDef 14 (b_all_shapes Γ) args h) h
noncomputable def b__law_tape (Γ : Gam) : Stm := (sSeq (sAsg (dLc frozen [3] (iSeq (dVar 0)) (gName 3) dYes (dFn vAbs (dFn vInt (dVar 3)))) (gName 1))
    (sSeq (sAsg (dC (.int 7)) (gName 2))
    (sSeq (sFor (iSeq (dVar 1)) (gName 3) (sSeq (sAsg (dBin vMod (dFn vInt (dBin vAdd (dBin vMul (dVar 2) (dC (.int 31))) (dVar 3))) (dC (.int 2147483647))) (gName 2))
    sNext))
    (sSeq (sRet (dDisp (((dC (.str [99, 101, 108, 108, 115])), (dVar 1)) :: (((dC (.str [97, 116])), (dC (.int 0))) :: (((dC (.str [108, 101, 102, 116])), (dC (.int 0))) :: (((dC (.str [115, 101, 101, 100])), (dVar 2)) :: (((dC (.str [115, 97, 108, 116])), (dC (.int 0))) :: [])))))))
    sNext))))
noncomputable def d__law_tape (Γ : Gam) : DF := fun args h => runDef 4 (b__law_tape Γ) args h
noncomputable def b__law_take (Γ : Gam) : Stm := (sSeq (sIf (dAnd (dB (dBin vEq (dBin vIx (dVar 0) (dC (.str [108, 101, 102, 116]))) (dC (.int 0)))) (dB (dBin vLt (dBin vIx (dVar 0) (dC (.str [97, 116]))) (dLen (dBin vIx (dVar 0) (dC (.str [99, 101, 108, 108, 115]))))))) (sSeq (sAsg (dBin vIx (dBin vIx (dVar 0) (dC (.str [99, 101, 108, 108, 115]))) (dBin vIx (dVar 0) (dC (.str [97, 116])))) (gSub (dVar 0) (dC (.str [108, 101, 102, 116]))))
    (sSeq (sAsg (dBin vAdd (dBin vIx (dVar 0) (dC (.str [97, 116]))) (dC (.int 1))) (gSub (dVar 0) (dC (.str [97, 116]))))
    sNext)) sNext)
    (sSeq (sIf (dB (dBin vGt (dBin vIx (dVar 0) (dC (.str [108, 101, 102, 116]))) (dC (.int 0)))) (sSeq (sAsg (dBin vMod (dFn vInt (dBin vIx (dVar 0) (dC (.str [108, 101, 102, 116])))) (dVar 1)) (gName 3))
    (sSeq (sAsg (dBin vDiv (dBin vIx (dVar 0) (dC (.str [108, 101, 102, 116]))) (dVar 1)) (gSub (dVar 0) (dC (.str [108, 101, 102, 116]))))
    (sSeq (sRet (dVar 3))
    sNext))) sNext)
    (sSeq (sAsg (dBin vAdd (dBin vIx (dVar 0) (dC (.str [115, 97, 108, 116]))) (dC (.int 1))) (gSub (dVar 0) (dC (.str [115, 97, 108, 116]))))
    (sSeq (sAsg (dBin vMod (dFn vInt (dBin vAdd (dBin vMul (dBin vIx (dVar 0) (dC (.str [115, 101, 101, 100]))) (dC (.int 48271))) (dBin vMul (dBin vIx (dVar 0) (dC (.str [115, 97, 108, 116]))) (dC (.int 69621))))) (dC (.int 2147483647))) (gName 2))
    (sSeq (sAsg (dBin vMod (dFn vInt (dBin vAdd (dBin vAdd (dBin vMul (dVar 2) (dVar 2)) (dBin vMul (dBin vIx (dVar 0) (dC (.str [115, 97, 108, 116]))) (dC (.int 40692)))) (dC (.int 12345)))) (dC (.int 2147483399))) (gName 2))
    (sSeq (sRet (dBin vMod (dFn vInt (dVar 2)) (dVar 1)))
    sNext))))))
noncomputable def d__law_take (Γ : Gam) : DF := fun args h => runDef 4 (b__law_take Γ) args h
noncomputable def b__law_is_integer (Γ : Gam) : Stm := (sSeq (sRet (dAndV (dIsi .int (dVar 0)) (dNotV (dIsi .bool (dVar 0)))))
    sNext)
noncomputable def d__law_is_integer (Γ : Gam) : DF := fun args h => runDef 1 (b__law_is_integer Γ) args h
noncomputable def b__law_same_items (Γ : Gam) : Stm := (sSeq (sIf (dB (dBin vNe (dLen (dVar 0)) (dLen (dVar 1)))) (sSeq (sRet (dC (.bl false)))
    sNext) sNext)
    (sSeq (sFor (iRange1 (dLen (dVar 1))) (gName 2) (sSeq (sIf (dNot (dTru (dCall (Γ 8) (dCons (dBin vIx (dVar 0) (dVar 2)) (dCons (dBin vIx (dVar 1) (dVar 2)) dNil))))) (sSeq (sRet (dC (.bl false)))
    sNext) sNext)
    sNext))
    (sSeq (sRet (dC (.bl true)))
    sNext)))
noncomputable def d__law_same_items (Γ : Gam) : DF := fun args h => runDef 3 (b__law_same_items Γ) args h
noncomputable def b__law_same (Γ : Gam) : Stm := (sSeq (sIf (dB (dBin vIsN (dVar 1) (dC .non))) (sSeq (sRet (dBin vIsN (dVar 0) (dC .non)))
    sNext) sNext)
    (sSeq (sIf (dTru (dIsi .bool (dVar 1))) (sSeq (sRet (dAndV (dIsi .bool (dVar 0)) (dBin vEq (dVar 0) (dVar 1))))
    sNext) sNext)
    (sSeq (sIf (dTru (dIsi .int (dVar 1))) (sSeq (sRet (dAndV (dCall (Γ 6) (dCons (dVar 0) dNil)) (dBin vEq (dVar 0) (dVar 1))))
    sNext) sNext)
    (sSeq (sIf (dTru (dIsi .str (dVar 1))) (sSeq (sRet (dAndV (dIsi .str (dVar 0)) (dBin vEq (dVar 0) (dVar 1))))
    sNext) sNext)
    (sSeq (sIf (dTru (dIsi .tuple (dVar 1))) (sSeq (sRet (dAndV (dIsi .tuple (dVar 0)) (dCall (Γ 7) (dCons (dVar 0) (dCons (dVar 1) dNil)))))
    sNext) sNext)
    (sSeq (sIf (dTru (dIsi .list (dVar 1))) (sSeq (sRet (dAndV (dIsi .list (dVar 0)) (dCall (Γ 7) (dCons (dVar 0) (dCons (dVar 1) dNil)))))
    sNext) sNext)
    (sSeq (sIf (dOr (dNot (dTru (dIsi .dict (dVar 0)))) (dB (dBin vNe (dLen (dVar 0)) (dLen (dVar 1))))) (sSeq (sRet (dC (.bl false)))
    sNext) sNext)
    (sSeq (sFor (iSeq (dVar 1)) (gName 2) (sSeq (sIf (dOr (dB (dBin vNotIn (dVar 2) (dVar 0))) (dNot (dTru (dCall (Γ 8) (dCons (dBin vIx (dVar 0) (dVar 2)) (dCons (dBin vIx (dVar 1) (dVar 2)) dNil)))))) (sSeq (sRet (dC (.bl false)))
    sNext) sNext)
    sNext))
    (sSeq (sFor (iSeq (dVar 0)) (gName 2) (sSeq (sIf (dTru (dIsi .bool (dVar 2))) (sSeq (sRet (dC (.bl false)))
    sNext) sNext)
    sNext))
    (sSeq (sRet (dC (.bl true)))
    sNext))))))))))
noncomputable def d__law_same (Γ : Gam) : DF := fun args h => runDef 3 (b__law_same Γ) args h
noncomputable def b__law_kind (Γ : Gam) : Stm := (sSeq (sAsg (dBin vIx (dTup (dCons (dTup (dCons (dC (.str [97])) dNil)) (dCons (dTup (dCons (dC (.str [97])) (dCons (dC (.str [98])) dNil))) (dCons (dTup (dCons (dC (.str [97])) (dCons (dC (.str [98])) dNil))) (dCons (dTup (dCons (dC (.str [98])) (dCons (dC (.str [100])) (dCons (dC (.str [122])) dNil)))) dNil))))) (dCall (Γ 5) (dCons (dVar 0) (dCons (dC (.int 4)) dNil)))) (gName 1))
    (sSeq (sRet (dTup (dCons (dBin vAdd (dC (.int 1)) (dBin vDiv (dCall (Γ 5) (dCons (dVar 0) (dCons (dC (.int 5)) dNil))) (dC (.int 3)))) (dCons (dVar 1) dNil))))
    sNext))
noncomputable def d__law_kind (Γ : Gam) : DF := fun args h => runDef 2 (b__law_kind Γ) args h
noncomputable def b__law_text (Γ : Gam) : Stm := (sSeq (sIf (dB (dBin vEq (dVar 0) (dTup dNil))) (sSeq (sRet (dC (.str [46])))
    sNext) sNext)
    (sSeq (sIf (dB (dBin vEq (dLen (dVar 0)) (dC (.int 2)))) (sSeq (sRet (dBin vAdd (dBin vIx (dVar 0) (dC (.int 0))) (dCall (Γ 10) (dCons (dBin vIx (dVar 0) (dC (.int 1))) dNil))))
    sNext) sNext)
    (sSeq (sRet (dBin vAdd (dBin vAdd (dBin vAdd (dBin vAdd (dBin vAdd (dBin vIx (dVar 0) (dC (.int 0))) (dC (.str [40]))) (dCall (Γ 10) (dCons (dBin vIx (dVar 0) (dC (.int 1))) dNil))) (dC (.str [44]))) (dCall (Γ 10) (dCons (dBin vIx (dVar 0) (dC (.int 2))) dNil))) (dC (.str [41]))))
    sNext)))
noncomputable def d__law_text (Γ : Gam) : DF := fun args h => runDef 1 (b__law_text Γ) args h
noncomputable def b__law_all (Γ : Gam) : Stm := (sSeq (sAsg (dLstM (dCons (dLst (dCons (dTup dNil) dNil)) dNil)) (gName 2))
    (sSeq (sFor (iRange2 (dC (.int 1)) (dBin vAdd (dVar 1) (dC (.int 1)))) (gName 3) (sSeq (sAsg (dLst dNil) (gName 4))
    (sSeq (sFor (iSeq (dBin vIx (dVar 0) (dC (.int 1)))) (gName 5) (sSeq (sIf (dB (dBin vEq (dBin vIx (dVar 0) (dC (.int 0))) (dC (.int 1)))) (sSeq (sAsg (dBin vAdd (dVar 4) (dLc frozen [8] (iSeq (dBin vIx (dVar 2) (dBin vSub (dVar 3) (dC (.int 1))))) (gName 8) dYes (dTup (dCons (dVar 5) (dCons (dVar 8) dNil))))) (gName 4))
    sNext) (sSeq (sFor (iRange1 (dVar 3)) (gName 6) (sSeq (sFor (iSeq (dBin vIx (dVar 2) (dVar 6))) (gName 7) (sSeq (sAsg (dBin vAdd (dVar 4) (dLc frozen [9] (iSeq (dBin vIx (dVar 2) (dBin vSub (dBin vSub (dVar 3) (dC (.int 1))) (dVar 6)))) (gName 9) dYes (dTup (dCons (dVar 5) (dCons (dVar 7) (dCons (dVar 9) dNil)))))) (gName 4))
    sNext))
    sNext))
    sNext))
    sNext))
    (sSeq (sExpr (dMeth1 isLst vAppend (dVar 2) (dVar 4)))
    sNext))))
    (sSeq (sRet (dSortKey [95, 108, 97, 119, 95, 97, 108, 108] 0 (dBin vIx (dVar 2) (dVar 1)) (dCall (Γ 10) (dCons (dVar 0) dNil))))
    sNext)))
noncomputable def d__law_all (Γ : Gam) : DF := fun args h => tidy (runDef 10 (b__law_all Γ) args h) h
noncomputable def b__law_number (Γ : Gam) : Stm := (sSeq (sAsg (dLstM (dCons (dC (.int 1)) dNil)) (gName 2))
    (sSeq (sFor (iRange2 (dC (.int 1)) (dBin vAdd (dVar 1) (dC (.int 1)))) (gName 3) (sSeq (sAsg (dIf (dB (dBin vEq (dBin vIx (dVar 0) (dC (.int 0))) (dC (.int 1)))) (dBin vIx (dVar 2) (dNeg (dC (.int 1)))) (dFn vSum (dLc frozen [5] (iRange1 (dVar 3)) (gName 5) dYes (dBin vMul (dBin vIx (dVar 2) (dVar 5)) (dBin vIx (dVar 2) (dBin vSub (dBin vSub (dVar 3) (dC (.int 1))) (dVar 5))))))) (gName 4))
    (sSeq (sExpr (dMeth1 isLst vAppend (dVar 2) (dBin vMul (dLen (dBin vIx (dVar 0) (dC (.int 1)))) (dVar 4))))
    sNext)))
    (sSeq (sRet (dBin vIx (dVar 2) (dVar 1)))
    sNext)))
noncomputable def d__law_number (Γ : Gam) : DF := fun args h => tidy (runDef 6 (b__law_number Γ) args h) h
noncomputable def b_law (Γ : Gam) : Stm := (sSeq (sAsg (dCall (Γ 4) (dCons (dVar 0) dNil)) (gName 1))
    (sSeq (sAsg (dCall (Γ 9) (dCons (dVar 1) dNil)) (gName 2))
    (sSeq (sAsg (dCall (Γ 5) (dCons (dVar 1) (dCons (dC (.int 5)) dNil))) (gName 3))
    (sSeq (sIf (dB (dBin vEq (dCall (Γ 5) (dCons (dVar 1) (dCons (dC (.int 3)) dNil))) (dC (.int 0)))) (sSeq (sAsg (dCall (Γ 5) (dCons (dVar 1) (dCons (dC (.int 31)) dNil))) (gName 3))
    sNext) sNext)
    (sSeq (sAsg (dCall (Γ 12) (dCons (dVar 2) (dCons (dVar 3) dNil))) (gName 4))
    (sSeq (sIf (dB (dChain vLt vLe (dC (.int 300)) (dVar 4) (dC (.int 20000)))) (sSeq (sRet (dC (.bl true)))
    sNext) sNext)
    (sSeq (sTry [([83, 97, 121, 69, 114, 114, 111, 114], false), ([73, 110, 118, 97, 108, 105, 100, 75, 105, 110, 100], false), ([84, 111, 111, 76, 97, 114, 103, 101], true)] (sSeq (sAsg (dCall (Γ 3) (dCons (dVar 2) (dCons (dVar 3) dNil))) (gName 5))
    sNext) (sSeq (sRet (dBin vGt (dVar 4) (dC (.int 20000))))
    sNext))
    (sSeq (sRet (dAndV (dBin vLe (dVar 4) (dC (.int 300))) (dCall (Γ 8) (dCons (dVar 5) (dCons (dCall (Γ 11) (dCons (dVar 2) (dCons (dVar 3) dNil))) dNil)))))
    sNext))))))))
noncomputable def d_law (Γ : Gam) : DF := fun args h => runDef 6 (b_law Γ) args h
noncomputable def D (Γ : Gam) : Gam := fun j => match j with
  | 0 => d_check_kind Γ
  | 1 => d_write_shape Γ
  | 2 => d_shape_counts Γ
  | 3 => d_all_shapes Γ
  | 4 => d__law_tape Γ
  | 5 => d__law_take Γ
  | 6 => d__law_is_integer Γ
  | 7 => d__law_same_items Γ
  | 8 => d__law_same Γ
  | 9 => d__law_kind Γ
  | 10 => d__law_text Γ
  | 11 => d__law_all Γ
  | 12 => d__law_number Γ
  | 13 => d_law Γ
  | _ => fun _ _ => .fail
def sig : List (Str × List Str) := [("check_kind", ["kind"]), ("write_shape", ["shape"]), ("shape_counts", ["kind", "count"]), ("all_shapes", ["kind", "count"]), ("_law_tape", ["script"]), ("_law_take", ["tape", "many"]), ("_law_is_integer", ["actual"]), ("_law_same_items", ["actual", "expected"]), ("_law_same", ["actual", "expected"]), ("_law_kind", ["tape"]), ("_law_text", ["shape"]), ("_law_all", ["kind", "count"]), ("_law_number", ["kind", "count"]), ("law", ["script"])]
structure Fc (K : PySem.W.Frag) (mg : Str → Option Value) : Prop where
  f_abs : mg "abs" = none
  f_all : mg "all" = none
  f_bool : mg "bool" = none
  f_dict : mg "dict" = none
  f_int : mg "int" = none
  f_isinstance : mg "isinstance" = none
  f_len : mg "len" = none
  f_list : mg "list" = none
  f_range : mg "range" = none
  f_set : mg "set" = none
  f_sorted : mg "sorted" = none
  f_str : mg "str" = none
  f_sum : mg "sum" = none
  f_tuple : mg "tuple" = none
  c_MOST_SHAPES : ∃ t, mg "MOST_SHAPES" = some (.int 20000 t)
  c_LETTERS : ∃ t, mg "LETTERS" = some (.str (sOf [97, 98, 99, 100, 101, 102, 103, 104, 105, 106, 107, 108, 109, 110, 111, 112, 113, 114, 115, 116, 117, 118, 119, 120, 121, 122]) t)
  e_SayError : PySem.W.excIn K (clsA K [83, 97, 121, 69, 114, 114, 111, 114]) He.veBase "ValueError.__new__" = true ∧ PySem.W.keepIn K (.ref (clsA K [83, 97, 121, 69, 114, 114, 111, 114])) = true ∧ PySem.W.subIn K (.ref (clsA K [83, 97, 121, 69, 114, 114, 111, 114])) (.type "BaseException") = some true ∧ PySem.W.typeIn K (.ref (clsA K [83, 97, 121, 69, 114, 114, 111, 114])) = some (.type "type") ∧ mg "SayError" = some (.ref (clsA K [83, 97, 121, 69, 114, 114, 111, 114]))
  e_InvalidKind : PySem.W.excIn K (clsA K [73, 110, 118, 97, 108, 105, 100, 75, 105, 110, 100]) He.veBase "ValueError.__new__" = true ∧ PySem.W.keepIn K (.ref (clsA K [73, 110, 118, 97, 108, 105, 100, 75, 105, 110, 100])) = true ∧ PySem.W.subIn K (.ref (clsA K [73, 110, 118, 97, 108, 105, 100, 75, 105, 110, 100])) (.type "BaseException") = some true ∧ PySem.W.typeIn K (.ref (clsA K [73, 110, 118, 97, 108, 105, 100, 75, 105, 110, 100])) = some (.type "type") ∧ mg "InvalidKind" = some (.ref (clsA K [73, 110, 118, 97, 108, 105, 100, 75, 105, 110, 100]))
  e_TooLarge : PySem.W.excIn K (clsA K [84, 111, 111, 76, 97, 114, 103, 101]) He.veBase "ValueError.__new__" = true ∧ PySem.W.keepIn K (.ref (clsA K [84, 111, 111, 76, 97, 114, 103, 101])) = true ∧ PySem.W.subIn K (.ref (clsA K [84, 111, 111, 76, 97, 114, 103, 101])) (.type "BaseException") = some true ∧ PySem.W.typeIn K (.ref (clsA K [84, 111, 111, 76, 97, 114, 103, 101])) = some (.type "type") ∧ mg "TooLarge" = some (.ref (clsA K [84, 111, 111, 76, 97, 114, 103, 101]))
  m_TooLarge : ∀ p ∈ ([([83, 97, 121, 69, 114, 114, 111, 114], false), ([73, 110, 118, 97, 108, 105, 100, 75, 105, 110, 100], false), ([84, 111, 111, 76, 97, 114, 103, 101], true)] : List (List Nat × Bool)), PySem.W.exmOne K (.ref (clsA K p.1)) (.ref (clsA K [84, 111, 111, 76, 97, 114, 103, 101])) = some p.2
abbrev FnP (K : PySem.W.Frag) (x : Str) (i : Nat) (fd : FuncData) : Prop := FunD K x x (defArgs (top i)) (defBody (top i)) (defScope (top i)) [] [] (He.ga K x) fd
section
variable {P : Program} {w : World} {K : PySem.W.Frag} {mg : Str → Option Value} {base : Heap} {k : Nat} {Γ : Gam}
theorem s_check_kind : FnScope ["kind", "ways", "labels", "label"] ["kind"] (defScope (top 7)) := ⟨rfl, rfl, rfl, by decide +kernel, rfl, by decide +kernel, by decide +kernel⟩
theorem w_check_kind (F : AllK P w K mg base sig k Γ) (hwW : w = TheWorld.w) (fc : Fc K mg) {fa : Addr} {cdv : Value} {A : Around} {outer : List PySem.Env} {s : Shared} {H : Hp} {E : XK} (hr : Room k (A.deeper (envOfC "check_kind" (defScope (top 7)) s.heap.objs.size fa cdv)))
    (hp : PassesOwn (model P w) (A.deeper (envOfC "check_kind" (defScope (top 7)) s.heap.objs.size fa cdv)) (envOfC "check_kind" (defScope (top 7)) s.heap.objs.size fa cdv) (cxOf (L2.CX P w) P w K mg base ["kind", "ways", "labels", "label"] "check_kind" (defScope (top 7)) fa cdv A outer s H E).xe)
    (tk : Takes (cxOf (L2.CX P w) P w K mg base ["kind", "ways", "labels", "label"] "check_kind" (defScope (top 7)) fa cdv A outer s H E) (WD E)) :
    GSs (cxOf (L2.CX P w) P w K mg base ["kind", "ways", "labels", "label"] "check_kind" (defScope (top 7)) fa cdv A outer s H E) (WD E) (defBody (top 7)) (b_check_kind Γ) := by
  have nd : (["kind", "ways", "labels", "label"] : List Str).Nodup := s_check_kind.nd
  have hu : (cxOf (L2.CX P w) P w K mg base ["kind", "ways", "labels", "label"] "check_kind" (defScope (top 7)) fa cdv A outer s H E).A.units + 200 < cLine := by
    have := hr.un
    show (A.deeper (envOfC "check_kind" (defScope (top 7)) s.heap.objs.size fa cdv)).units + 200 < cLine
    omega
  have hu1 : (cxOf (L2.CX P w) P w K mg base ["kind", "ways", "labels", "label"] "check_kind" (defScope (top 7)) fa cdv A outer s H E).A.units + 1 < cLine := by omega
  exact (gs_cons (gs_asg (ge_var 0) (gg_tup rfl (ggs_cons (gg_name 1 nd) (ggs_cons (gg_name 2 nd) ggs_nil))))
    (gs_cons (gs_if (GW.pt (gw_or (gt_cmp (og_notIn hu) (ge_var 1) (ge_tup (ga_cons ge_int (ga_cons ge_int ga_nil)))) (gw_or (gt_not (gt_chain og_le og_le ge_int (ge_len (ge_var 2) fc.f_len) ge_int)) (gw_or1 (gt_cmp (og_ne hu) (ge_t1 c1_list (ge_var 2) fc.f_list) (ge_sortSet rfl hu (ge_var 2) fc.f_sorted fc.f_set)))))) (gs_cons (gs_raise [73, 110, 118, 97, 108, 105, 100, 75, 105, 110, 100] rfl tk fc.e_InvalidKind.1 fc.e_InvalidKind.2.2.2.2 fc.e_InvalidKind.2.1 fc.e_InvalidKind.2.2.1 fc.e_InvalidKind.2.2.2.1)
    gs_nil) gs_nil)
    (gs_cons (gs_if (gt_not (gt_tru (ge_b1 (c1_all rfl) (ge_lc fin_frozen [("label", 3)] rfl nd (gi_seq (ge_var 2)) (fun _ _ _ _ _ => (gc_name 3 nd)) (fun _ _ _ _ _ => gts_nil) (fun _ _ _ _ _ => (ge_and (ge_cmp (og_eq hu) (ge_len (ge_var 3) fc.f_len) ge_int) (ge_one (ge_cmp (og_in hu) (ge_var 3) (ge_tops [97, 98, 99, 100, 101, 102, 103, 104, 105, 106, 107, 108, 109, 110, 111, 112, 113, 114, 115, 116, 117, 118, 119, 120, 121, 122] fc.c_LETTERS)))))) fc.f_all))) (gs_cons (gs_raise [73, 110, 118, 97, 108, 105, 100, 75, 105, 110, 100] rfl tk fc.e_InvalidKind.1 fc.e_InvalidKind.2.2.2.2 fc.e_InvalidKind.2.1 fc.e_InvalidKind.2.2.1 fc.e_InvalidKind.2.2.2.1)
    gs_nil) gs_nil)
    gs_nil)))
theorem k_check_kind {fd : FuncData} (F : AllK P w K mg base sig k Γ) (hwW : w = TheWorld.w) (fc : Fc K mg) (U : FnP K "check_kind" 7 fd) : FnOk P w K mg base (L2.CX P w) (k + 1) (He.ga K "check_kind") fd ["kind"] (spG K (d_check_kind Γ) 1) :=
  fn_G (k := k) U s_check_kind (fun args h _ => .inl rfl) fun cdv A outer s H E hr hp tk => w_check_kind F hwW fc hr hp tk
theorem s_write_shape : FnScope ["shape", "pieces", "waiting", "current"] ["shape"] (defScope (top 8)) := ⟨rfl, rfl, rfl, by decide +kernel, rfl, by decide +kernel, by decide +kernel⟩
theorem w_write_shape (F : AllK P w K mg base sig k Γ) (hwW : w = TheWorld.w) (fc : Fc K mg) {fa : Addr} {cdv : Value} {A : Around} {outer : List PySem.Env} {s : Shared} {H : Hp} {E : XK} (hr : Room k (A.deeper (envOfC "write_shape" (defScope (top 8)) s.heap.objs.size fa cdv)))
    (hp : PassesOwn (model P w) (A.deeper (envOfC "write_shape" (defScope (top 8)) s.heap.objs.size fa cdv)) (envOfC "write_shape" (defScope (top 8)) s.heap.objs.size fa cdv) (cxOf (L2.CX P w) P w K mg base ["shape", "pieces", "waiting", "current"] "write_shape" (defScope (top 8)) fa cdv A outer s H E).xe)
    (tk : Takes (cxOf (L2.CX P w) P w K mg base ["shape", "pieces", "waiting", "current"] "write_shape" (defScope (top 8)) fa cdv A outer s H E) (WD E)) :
    GSs (cxOf (L2.CX P w) P w K mg base ["shape", "pieces", "waiting", "current"] "write_shape" (defScope (top 8)) fa cdv A outer s H E) (WD E) (defBody (top 8)) (b_write_shape Γ) := by
  have nd : (["shape", "pieces", "waiting", "current"] : List Str).Nodup := s_write_shape.nd
  have hu : (cxOf (L2.CX P w) P w K mg base ["shape", "pieces", "waiting", "current"] "write_shape" (defScope (top 8)) fa cdv A outer s H E).A.units + 200 < cLine := by
    have := hr.un
    show (A.deeper (envOfC "write_shape" (defScope (top 8)) s.heap.objs.size fa cdv)).units + 200 < cLine
    omega
  have hu1 : (cxOf (L2.CX P w) P w K mg base ["shape", "pieces", "waiting", "current"] "write_shape" (defScope (top 8)) fa cdv A outer s H E).A.units + 1 < cLine := by omega
  exact (gs_cons (gs_set 1 (ge_lstM ga_nil) nd)
    (gs_cons (gs_set 2 (ge_lstM (ga_cons (ge_var 0) ga_nil)) nd)
    (gs_cons (gs_while hp (gt_tru (ge_var 2)) (gs_cons (gs_set 3 (ge_pop (ge_var 2)) nd)
    (gs_cons (gs_if (gt_tru (ge_isi .str (ge_var 3) fc.f_isinstance fc.f_str)) (gs_cons (gs_expr (ge_append (ge_var 1) (ge_var 3)))
    gs_nil) (gs_cons (gs_if (gt_not (gt_tru (ge_var 3))) (gs_cons (gs_expr (ge_append (ge_var 1) (ge_str [46])))
    gs_nil) (gs_cons (gs_if (gt_cmp (og_eq hu) (ge_len (ge_var 3) fc.f_len) ge_int) (gs_cons (gs_expr (ge_append (ge_var 1) (ge_ix hu1 (ge_var 3) ge_int)))
    (gs_cons (gs_expr (ge_append (ge_var 2) (ge_ix hu1 (ge_var 3) ge_int)))
    gs_nil)) (gs_cons (gs_expr (ge_append (ge_var 1) (ge_ix hu1 (ge_var 3) ge_int)))
    (gs_cons (gs_expr (ge_extend (ge_var 2) (ge_lst (ga_cons (ge_str [41]) (ga_cons (ge_ix hu1 (ge_var 3) ge_int) (ga_cons (ge_str [44]) (ga_cons (ge_ix hu1 (ge_var 3) ge_int) (ga_cons (ge_str [40]) ga_nil))))))))
    gs_nil)))
    gs_nil))
    gs_nil))
    gs_nil)))
    (gs_cons (gs_ret (ge_join (ge_str []) (ge_var 1)))
    gs_nil))))
theorem k_write_shape {fd : FuncData} (F : AllK P w K mg base sig k Γ) (hwW : w = TheWorld.w) (fc : Fc K mg) (U : FnP K "write_shape" 8 fd) : FnOk P w K mg base (L2.CX P w) (k + 1) (He.ga K "write_shape") fd ["shape"] (spG K (d_write_shape Γ) 1) :=
  fn_G (k := k) U s_write_shape (fun args h _ => .inr rfl) fun cdv A outer s H E hr hp tk => w_write_shape F hwW fc hr hp tk
theorem s_shape_counts : FnScope ["kind", "count", "result", "total", "ways", "labels", "pairs", "left"] ["kind", "count"] (defScope (top 9)) := ⟨rfl, rfl, rfl, by decide +kernel, rfl, by decide +kernel, by decide +kernel⟩
theorem w_shape_counts (F : AllK P w K mg base sig k Γ) (hwW : w = TheWorld.w) (fc : Fc K mg) {fa : Addr} {cdv : Value} {A : Around} {outer : List PySem.Env} {s : Shared} {H : Hp} {E : XK} (hr : Room k (A.deeper (envOfC "shape_counts" (defScope (top 9)) s.heap.objs.size fa cdv)))
    (hp : PassesOwn (model P w) (A.deeper (envOfC "shape_counts" (defScope (top 9)) s.heap.objs.size fa cdv)) (envOfC "shape_counts" (defScope (top 9)) s.heap.objs.size fa cdv) (cxOf (L2.CX P w) P w K mg base ["kind", "count", "result", "total", "ways", "labels", "pairs", "left"] "shape_counts" (defScope (top 9)) fa cdv A outer s H E).xe)
    (tk : Takes (cxOf (L2.CX P w) P w K mg base ["kind", "count", "result", "total", "ways", "labels", "pairs", "left"] "shape_counts" (defScope (top 9)) fa cdv A outer s H E) (WD E)) :
    GSs (cxOf (L2.CX P w) P w K mg base ["kind", "count", "result", "total", "ways", "labels", "pairs", "left"] "shape_counts" (defScope (top 9)) fa cdv A outer s H E) (WD E) (defBody (top 9)) (b_shape_counts Γ) := by
  have nd : (["kind", "count", "result", "total", "ways", "labels", "pairs", "left"] : List Str).Nodup := s_shape_counts.nd
  have hu : (cxOf (L2.CX P w) P w K mg base ["kind", "count", "result", "total", "ways", "labels", "pairs", "left"] "shape_counts" (defScope (top 9)) fa cdv A outer s H E).A.units + 200 < cLine := by
    have := hr.un
    show (A.deeper (envOfC "shape_counts" (defScope (top 9)) s.heap.objs.size fa cdv)).units + 200 < cLine
    omega
  have hu1 : (cxOf (L2.CX P w) P w K mg base ["kind", "count", "result", "total", "ways", "labels", "pairs", "left"] "shape_counts" (defScope (top 9)) fa cdv A outer s H E).A.units + 1 < cLine := by omega
  exact (gs_cons (gs_asg (ge_var 0) (gg_tup rfl (ggs_cons (gg_name 4 nd) (ggs_cons (gg_name 5 nd) ggs_nil))))
    (gs_cons (gs_set 2 (ge_lstM (ga_cons ge_int ga_nil)) nd)
    (gs_cons (gs_for hp rfl (gi_range2 ge_int (ge_bin og_add (ge_var 1) ge_int) fc.f_range) (gg_name 3 nd) (gs_cons (gs_if (gt_cmp (og_eq hu) (ge_var 4) ge_int) (gs_cons (gs_expr (ge_append (ge_var 2) (ge_bin og_mul (ge_len (ge_var 5) fc.f_len) (ge_ix hu1 (ge_var 2) (ge_neg ge_int)))))
    gs_nil) (gs_cons (gs_set 6 (ge_b1 (c1_sum rfl) (ge_lc fin_frozen [("left", 7)] rfl nd (gi_range1 (ge_var 3) fc.f_range) (fun _ _ _ _ _ => (gc_name 7 nd)) (fun _ _ _ _ _ => gts_nil) (fun _ _ _ _ _ => (ge_bin og_mul (ge_ix hu1 (ge_var 2) (ge_var 7)) (ge_ix hu1 (ge_var 2) (ge_bin og_sub (ge_bin og_sub (ge_var 3) ge_int) (ge_var 7)))))) fc.f_sum) nd)
    (gs_cons (gs_expr (ge_append (ge_var 2) (ge_bin og_mul (ge_len (ge_var 5) fc.f_len) (ge_var 6))))
    gs_nil)))
    gs_nil))
    (gs_cons (gs_ret (ge_var 2))
    gs_nil))))
theorem k_shape_counts {fd : FuncData} (F : AllK P w K mg base sig k Γ) (hwW : w = TheWorld.w) (fc : Fc K mg) (U : FnP K "shape_counts" 9 fd) : FnOk P w K mg base (L2.CX P w) (k + 1) (He.ga K "shape_counts") fd ["kind", "count"] (spG K (d_shape_counts Γ) 2) :=
  fn_G (k := k) U s_shape_counts (fun args h _ => .inr rfl) fun cdv A outer s H E hr hp tk => w_shape_counts F hwW fc hr hp tk
theorem s_all_shapes : FnScope ["kind", "count", "by_size", "total", "ways", "labels", "found", "label", "left", "first", "_", "shape", "child", "second"] ["kind", "count"] (defScope (top 10)) := ⟨rfl, rfl, rfl, by decide +kernel, rfl, by decide +kernel, by decide +kernel⟩
theorem w_all_shapes (F : AllK P w K mg base sig k Γ) (hwW : w = TheWorld.w) (fc : Fc K mg) {fa : Addr} {cdv : Value} {A : Around} {outer : List PySem.Env} {s : Shared} {H : Hp} {E : XK} (hr : Room k (A.deeper (envOfC "all_shapes" (defScope (top 10)) s.heap.objs.size fa cdv)))
    (hp : PassesOwn (model P w) (A.deeper (envOfC "all_shapes" (defScope (top 10)) s.heap.objs.size fa cdv)) (envOfC "all_shapes" (defScope (top 10)) s.heap.objs.size fa cdv) (cxOf (L2.CX P w) P w K mg base ["kind", "count", "by_size", "total", "ways", "labels", "found", "label", "left", "first", "_", "shape", "child", "second"] "all_shapes" (defScope (top 10)) fa cdv A outer s H E).xe)
    (tk : Takes (cxOf (L2.CX P w) P w K mg base ["kind", "count", "by_size", "total", "ways", "labels", "found", "label", "left", "first", "_", "shape", "child", "second"] "all_shapes" (defScope (top 10)) fa cdv A outer s H E) (WD E)) :
    GSs (cxOf (L2.CX P w) P w K mg base ["kind", "count", "by_size", "total", "ways", "labels", "found", "label", "left", "first", "_", "shape", "child", "second"] "all_shapes" (defScope (top 10)) fa cdv A outer s H E) (WD E) (defBody (top 10)) (b_all_shapes Γ) := by
  have nd : (["kind", "count", "by_size", "total", "ways", "labels", "found", "label", "left", "first", "_", "shape", "child", "second"] : List Str).Nodup := s_all_shapes.nd
  have hu : (cxOf (L2.CX P w) P w K mg base ["kind", "count", "by_size", "total", "ways", "labels", "found", "label", "left", "first", "_", "shape", "child", "second"] "all_shapes" (defScope (top 10)) fa cdv A outer s H E).A.units + 200 < cLine := by
    have := hr.un
    show (A.deeper (envOfC "all_shapes" (defScope (top 10)) s.heap.objs.size fa cdv)).units + 200 < cLine
    omega
  have hu1 : (cxOf (L2.CX P w) P w K mg base ["kind", "count", "by_size", "total", "ways", "labels", "found", "label", "left", "first", "_", "shape", "child", "second"] "all_shapes" (defScope (top 10)) fa cdv A outer s H E).A.units + 1 < cLine := by omega
  exact (gs_cons (gs_expr (ge_fn (F 0 _ _ rfl) hr tk (gan_cons (ge_var 0) gan_nil)))
    (gs_cons (gs_if (gt_cmp og_gt (ge_ix hu1 (ge_fn (F 2 _ _ rfl) hr tk (gan_cons (ge_var 0) (gan_cons (ge_var 1) gan_nil))) (ge_var 1)) (ge_topi fc.c_MOST_SHAPES)) (gs_cons (gs_raise [84, 111, 111, 76, 97, 114, 103, 101] rfl tk fc.e_TooLarge.1 fc.e_TooLarge.2.2.2.2 fc.e_TooLarge.2.1 fc.e_TooLarge.2.2.1 fc.e_TooLarge.2.2.2.1)
    gs_nil) gs_nil)
    (gs_cons (gs_asg (ge_var 0) (gg_tup rfl (ggs_cons (gg_name 4 nd) (ggs_cons (gg_name 5 nd) ggs_nil))))
    (gs_cons (gs_set 2 (ge_lstM (ga_cons (ge_lst (ga_cons (ge_tup ga_nil) ga_nil)) ga_nil)) nd)
    (gs_cons (gs_for hp rfl (gi_range2 ge_int (ge_bin og_add (ge_var 1) ge_int) fc.f_range) (gg_name 3 nd) (gs_cons (gs_set 6 (ge_lstM ga_nil) nd)
    (gs_cons (gs_for hp rfl (gi_seq (ge_var 5)) (gg_name 7 nd) (gs_cons (gs_if (gt_cmp (og_eq hu) (ge_var 4) ge_int) (gs_cons (gs_expr (ge_extend (ge_var 6) (ge_lc fin_frozen [("child", 12)] rfl nd (gi_seq (ge_ix hu1 (ge_var 2) (ge_bin og_sub (ge_var 3) ge_int))) (fun _ _ _ _ _ => (gc_name 12 nd)) (fun _ _ _ _ _ => gts_nil) (fun _ _ _ _ _ => (ge_tup (ga_cons (ge_var 7) (ga_cons (ge_var 12) ga_nil)))))))
    (gs_cons gs_continue
    gs_nil)) gs_nil)
    (gs_cons (gs_for hp rfl (gi_range1 (ge_var 3) fc.f_range) (gg_name 8 nd) (gs_cons (gs_for hp rfl (gi_seq (ge_ix hu1 (ge_var 2) (ge_var 8))) (gg_name 9 nd) (gs_cons (gs_expr (ge_extend (ge_var 6) (ge_lc fin_frozen [("second", 13)] rfl nd (gi_seq (ge_ix hu1 (ge_var 2) (ge_bin og_sub (ge_bin og_sub (ge_var 3) ge_int) (ge_var 8)))) (fun _ _ _ _ _ => (gc_name 13 nd)) (fun _ _ _ _ _ => gts_nil) (fun _ _ _ _ _ => (ge_tup (ga_cons (ge_var 7) (ga_cons (ge_var 9) (ga_cons (ge_var 13) ga_nil))))))))
    gs_nil))
    gs_nil))
    gs_nil)))
    (gs_cons (gs_expr (ge_append (ge_var 2) (ge_var 6)))
    gs_nil))))
    (gs_cons (gs_ret (ge_lc fin_frozen [("_", 10), ("shape", 11)] rfl nd (gi_seq (ge_b1 (c1_sorted hu) (ge_lc fin_frozen [("shape", 11)] rfl nd (gi_seq (ge_ix hu1 (ge_var 2) (ge_var 1))) (fun _ _ _ _ _ => (gc_name 11 nd)) (fun _ _ _ _ _ => gts_nil) (fun _ _ _ _ _ => (ge_tup (ga_cons (ge_fn (F 1 _ _ rfl) hr GH.takes0 (gan_cons (ge_var 11) gan_nil)) (ga_cons (ge_var 11) ga_nil))))) fc.f_sorted)) (fun _ _ _ _ _ => (gc_tup rfl (gcs_cons (gc_name 10 nd) (gcs_cons (gc_name 11 nd) gcs_nil)))) (fun _ _ _ _ _ => gts_nil) (fun _ _ _ _ _ => (ge_var 11))))
    gs_nil))))))
theorem k_all_shapes {fd : FuncData} (F : AllK P w K mg base sig k Γ) (hwW : w = TheWorld.w) (fc : Fc K mg) (U : FnP K "all_shapes" 10 fd) : FnOk P w K mg base (L2.CX P w) (k + 1) (He.ga K "all_shapes") fd ["kind", "count"] (spG K (d_all_shapes Γ) 2) :=
  fn_G (k := k) U s_all_shapes (fun args h _ => .inr rfl) fun cdv A outer s H E hr hp tk => w_all_shapes F hwW fc hr hp tk
theorem s__law_tape : FnScope ["script", "cells", "seed", "cell"] ["script"] (defScope (top 12)) := ⟨rfl, rfl, rfl, by decide +kernel, rfl, by decide +kernel, by decide +kernel⟩
theorem w__law_tape (F : AllK P w K mg base sig k Γ) (hwW : w = TheWorld.w) (fc : Fc K mg) {fa : Addr} {cdv : Value} {A : Around} {outer : List PySem.Env} {s : Shared} {H : Hp} {E : XK} (hr : Room k (A.deeper (envOfC "_law_tape" (defScope (top 12)) s.heap.objs.size fa cdv)))
    (hp : PassesOwn (model P w) (A.deeper (envOfC "_law_tape" (defScope (top 12)) s.heap.objs.size fa cdv)) (envOfC "_law_tape" (defScope (top 12)) s.heap.objs.size fa cdv) (cxOf (L2.CX P w) P w K mg base ["script", "cells", "seed", "cell"] "_law_tape" (defScope (top 12)) fa cdv A outer s H E).xe)
    (tk : Takes (cxOf (L2.CX P w) P w K mg base ["script", "cells", "seed", "cell"] "_law_tape" (defScope (top 12)) fa cdv A outer s H E) (WD E)) :
    GSs (cxOf (L2.CX P w) P w K mg base ["script", "cells", "seed", "cell"] "_law_tape" (defScope (top 12)) fa cdv A outer s H E) (WD E) (defBody (top 12)) (b__law_tape Γ) := by
  have nd : (["script", "cells", "seed", "cell"] : List Str).Nodup := s__law_tape.nd
  have hu : (cxOf (L2.CX P w) P w K mg base ["script", "cells", "seed", "cell"] "_law_tape" (defScope (top 12)) fa cdv A outer s H E).A.units + 200 < cLine := by
    have := hr.un
    show (A.deeper (envOfC "_law_tape" (defScope (top 12)) s.heap.objs.size fa cdv)).units + 200 < cLine
    omega
  have hu1 : (cxOf (L2.CX P w) P w K mg base ["script", "cells", "seed", "cell"] "_law_tape" (defScope (top 12)) fa cdv A outer s H E).A.units + 1 < cLine := by omega
  exact (gs_cons (gs_setLc fin_frozen 1 [("cell", 3)] rfl nd (gi_seq (ge_var 0)) (fun _ _ _ _ _ => (gc_name 3 nd)) (fun _ _ _ _ _ => gts_nil) (fun _ _ _ _ _ => (ge_b1 c1_abs (ge_t1 c1_int (ge_var 3) fc.f_int) fc.f_abs)))
    (gs_cons (gs_set 2 ge_int nd)
    (gs_cons (gs_for hp rfl (gi_seq (ge_var 1)) (gg_name 3 nd) (gs_cons (gs_set 2 (ge_bin og_mod (ge_t1 c1_int (ge_bin og_add (ge_bin og_mul (ge_var 2) ge_int) (ge_var 3)) fc.f_int) ge_int) nd)
    gs_nil))
    (gs_cons (gs_ret (ge_disp (gps_cons (ge_str [99, 101, 108, 108, 115]) (ge_var 1) (gps_cons (ge_str [97, 116]) ge_int (gps_cons (ge_str [108, 101, 102, 116]) ge_int (gps_cons (ge_str [115, 101, 101, 100]) (ge_var 2) (gps_cons (ge_str [115, 97, 108, 116]) ge_int gps_nil)))))))
    gs_nil))))
theorem k__law_tape {fd : FuncData} (F : AllK P w K mg base sig k Γ) (hwW : w = TheWorld.w) (fc : Fc K mg) (U : FnP K "_law_tape" 12 fd) : FnOk P w K mg base (L2.CX P w) (k + 1) (He.ga K "_law_tape") fd ["script"] (spG K (d__law_tape Γ) 1) :=
  fn_G (k := k) U s__law_tape (fun args h _ => .inl rfl) fun cdv A outer s H E hr hp tk => w__law_tape F hwW fc hr hp tk
theorem s__law_take : FnScope ["tape", "many", "mixed", "drawn"] ["tape", "many"] (defScope (top 13)) := ⟨rfl, rfl, rfl, by decide +kernel, rfl, by decide +kernel, by decide +kernel⟩
theorem w__law_take (F : AllK P w K mg base sig k Γ) (hwW : w = TheWorld.w) (fc : Fc K mg) {fa : Addr} {cdv : Value} {A : Around} {outer : List PySem.Env} {s : Shared} {H : Hp} {E : XK} (hr : Room k (A.deeper (envOfC "_law_take" (defScope (top 13)) s.heap.objs.size fa cdv)))
    (hp : PassesOwn (model P w) (A.deeper (envOfC "_law_take" (defScope (top 13)) s.heap.objs.size fa cdv)) (envOfC "_law_take" (defScope (top 13)) s.heap.objs.size fa cdv) (cxOf (L2.CX P w) P w K mg base ["tape", "many", "mixed", "drawn"] "_law_take" (defScope (top 13)) fa cdv A outer s H E).xe)
    (tk : Takes (cxOf (L2.CX P w) P w K mg base ["tape", "many", "mixed", "drawn"] "_law_take" (defScope (top 13)) fa cdv A outer s H E) (WD E)) :
    GSs (cxOf (L2.CX P w) P w K mg base ["tape", "many", "mixed", "drawn"] "_law_take" (defScope (top 13)) fa cdv A outer s H E) (WD E) (defBody (top 13)) (b__law_take Γ) := by
  have nd : (["tape", "many", "mixed", "drawn"] : List Str).Nodup := s__law_take.nd
  have hu : (cxOf (L2.CX P w) P w K mg base ["tape", "many", "mixed", "drawn"] "_law_take" (defScope (top 13)) fa cdv A outer s H E).A.units + 200 < cLine := by
    have := hr.un
    show (A.deeper (envOfC "_law_take" (defScope (top 13)) s.heap.objs.size fa cdv)).units + 200 < cLine
    omega
  have hu1 : (cxOf (L2.CX P w) P w K mg base ["tape", "many", "mixed", "drawn"] "_law_take" (defScope (top 13)) fa cdv A outer s H E).A.units + 1 < cLine := by omega
  exact (gs_cons (gs_if (GW.pt (gw_and (gt_cmp (og_eq hu) (ge_ix hu1 (ge_var 0) (ge_str [108, 101, 102, 116])) ge_int) (gw_and1 (gt_cmp og_lt (ge_ix hu1 (ge_var 0) (ge_str [97, 116])) (ge_len (ge_ix hu1 (ge_var 0) (ge_str [99, 101, 108, 108, 115])) fc.f_len))))) (gs_cons (gs_asg (ge_ix hu1 (ge_ix hu1 (ge_var 0) (ge_str [99, 101, 108, 108, 115])) (ge_ix hu1 (ge_var 0) (ge_str [97, 116]))) (gg_sub hu1 (ge_var 0) (ge_str [108, 101, 102, 116])))
    (gs_cons (gs_asg (ge_bin og_add (ge_ix hu1 (ge_var 0) (ge_str [97, 116])) ge_int) (gg_sub hu1 (ge_var 0) (ge_str [97, 116])))
    gs_nil)) gs_nil)
    (gs_cons (gs_if (gt_cmp og_gt (ge_ix hu1 (ge_var 0) (ge_str [108, 101, 102, 116])) ge_int) (gs_cons (gs_set 3 (ge_bin og_mod (ge_t1 c1_int (ge_ix hu1 (ge_var 0) (ge_str [108, 101, 102, 116])) fc.f_int) (ge_var 1)) nd)
    (gs_cons (gs_asg (ge_bin og_div (ge_ix hu1 (ge_var 0) (ge_str [108, 101, 102, 116])) (ge_var 1)) (gg_sub hu1 (ge_var 0) (ge_str [108, 101, 102, 116])))
    (gs_cons (gs_ret (ge_var 3))
    gs_nil))) gs_nil)
    (gs_cons (gs_asg (ge_bin og_add (ge_ix hu1 (ge_var 0) (ge_str [115, 97, 108, 116])) ge_int) (gg_sub hu1 (ge_var 0) (ge_str [115, 97, 108, 116])))
    (gs_cons (gs_set 2 (ge_bin og_mod (ge_t1 c1_int (ge_bin og_add (ge_bin og_mul (ge_ix hu1 (ge_var 0) (ge_str [115, 101, 101, 100])) ge_int) (ge_bin og_mul (ge_ix hu1 (ge_var 0) (ge_str [115, 97, 108, 116])) ge_int)) fc.f_int) ge_int) nd)
    (gs_cons (gs_set 2 (ge_bin og_mod (ge_t1 c1_int (ge_bin og_add (ge_bin og_add (ge_bin og_mul (ge_var 2) (ge_var 2)) (ge_bin og_mul (ge_ix hu1 (ge_var 0) (ge_str [115, 97, 108, 116])) ge_int)) ge_int) fc.f_int) ge_int) nd)
    (gs_cons (gs_ret (ge_bin og_mod (ge_t1 c1_int (ge_var 2) fc.f_int) (ge_var 1)))
    gs_nil))))))
theorem k__law_take {fd : FuncData} (F : AllK P w K mg base sig k Γ) (hwW : w = TheWorld.w) (fc : Fc K mg) (U : FnP K "_law_take" 13 fd) : FnOk P w K mg base (L2.CX P w) (k + 1) (He.ga K "_law_take") fd ["tape", "many"] (spG K (d__law_take Γ) 2) :=
  fn_G (k := k) U s__law_take (fun args h _ => .inl rfl) fun cdv A outer s H E hr hp tk => w__law_take F hwW fc hr hp tk
theorem s__law_is_integer : FnScope ["actual"] ["actual"] (defScope (top 14)) := ⟨rfl, rfl, rfl, by decide +kernel, rfl, by decide +kernel, by decide +kernel⟩
theorem w__law_is_integer (F : AllK P w K mg base sig k Γ) (hwW : w = TheWorld.w) (fc : Fc K mg) {fa : Addr} {cdv : Value} {A : Around} {outer : List PySem.Env} {s : Shared} {H : Hp} {E : XK} (hr : Room k (A.deeper (envOfC "_law_is_integer" (defScope (top 14)) s.heap.objs.size fa cdv)))
    (hp : PassesOwn (model P w) (A.deeper (envOfC "_law_is_integer" (defScope (top 14)) s.heap.objs.size fa cdv)) (envOfC "_law_is_integer" (defScope (top 14)) s.heap.objs.size fa cdv) (cxOf (L2.CX P w) P w K mg base ["actual"] "_law_is_integer" (defScope (top 14)) fa cdv A outer s H E).xe)
    (tk : Takes (cxOf (L2.CX P w) P w K mg base ["actual"] "_law_is_integer" (defScope (top 14)) fa cdv A outer s H E) (WD E)) :
    GSs (cxOf (L2.CX P w) P w K mg base ["actual"] "_law_is_integer" (defScope (top 14)) fa cdv A outer s H E) (WD E) (defBody (top 14)) (b__law_is_integer Γ) := by
  have nd : (["actual"] : List Str).Nodup := s__law_is_integer.nd
  have hu : (cxOf (L2.CX P w) P w K mg base ["actual"] "_law_is_integer" (defScope (top 14)) fa cdv A outer s H E).A.units + 200 < cLine := by
    have := hr.un
    show (A.deeper (envOfC "_law_is_integer" (defScope (top 14)) s.heap.objs.size fa cdv)).units + 200 < cLine
    omega
  have hu1 : (cxOf (L2.CX P w) P w K mg base ["actual"] "_law_is_integer" (defScope (top 14)) fa cdv A outer s H E).A.units + 1 < cLine := by omega
  exact (gs_cons (gs_ret (ge_and (ge_isi .int (ge_var 0) fc.f_isinstance fc.f_int) (ge_one (ge_not (ge_isi .bool (ge_var 0) fc.f_isinstance fc.f_bool)))))
    gs_nil)
theorem k__law_is_integer {fd : FuncData} (F : AllK P w K mg base sig k Γ) (hwW : w = TheWorld.w) (fc : Fc K mg) (U : FnP K "_law_is_integer" 14 fd) : FnOk P w K mg base (L2.CX P w) (k + 1) (He.ga K "_law_is_integer") fd ["actual"] (spG K (d__law_is_integer Γ) 1) :=
  fn_G (k := k) U s__law_is_integer (fun args h _ => .inl rfl) fun cdv A outer s H E hr hp tk => w__law_is_integer F hwW fc hr hp tk
theorem s__law_same_items : FnScope ["actual", "expected", "k"] ["actual", "expected"] (defScope (top 15)) := ⟨rfl, rfl, rfl, by decide +kernel, rfl, by decide +kernel, by decide +kernel⟩
theorem w__law_same_items (F : AllK P w K mg base sig k Γ) (hwW : w = TheWorld.w) (fc : Fc K mg) {fa : Addr} {cdv : Value} {A : Around} {outer : List PySem.Env} {s : Shared} {H : Hp} {E : XK} (hr : Room k (A.deeper (envOfC "_law_same_items" (defScope (top 15)) s.heap.objs.size fa cdv)))
    (hp : PassesOwn (model P w) (A.deeper (envOfC "_law_same_items" (defScope (top 15)) s.heap.objs.size fa cdv)) (envOfC "_law_same_items" (defScope (top 15)) s.heap.objs.size fa cdv) (cxOf (L2.CX P w) P w K mg base ["actual", "expected", "k"] "_law_same_items" (defScope (top 15)) fa cdv A outer s H E).xe)
    (tk : Takes (cxOf (L2.CX P w) P w K mg base ["actual", "expected", "k"] "_law_same_items" (defScope (top 15)) fa cdv A outer s H E) (WD E)) :
    GSs (cxOf (L2.CX P w) P w K mg base ["actual", "expected", "k"] "_law_same_items" (defScope (top 15)) fa cdv A outer s H E) (WD E) (defBody (top 15)) (b__law_same_items Γ) := by
  have nd : (["actual", "expected", "k"] : List Str).Nodup := s__law_same_items.nd
  have hu : (cxOf (L2.CX P w) P w K mg base ["actual", "expected", "k"] "_law_same_items" (defScope (top 15)) fa cdv A outer s H E).A.units + 200 < cLine := by
    have := hr.un
    show (A.deeper (envOfC "_law_same_items" (defScope (top 15)) s.heap.objs.size fa cdv)).units + 200 < cLine
    omega
  have hu1 : (cxOf (L2.CX P w) P w K mg base ["actual", "expected", "k"] "_law_same_items" (defScope (top 15)) fa cdv A outer s H E).A.units + 1 < cLine := by omega
  exact (gs_cons (gs_if (gt_cmp (og_ne hu) (ge_len (ge_var 0) fc.f_len) (ge_len (ge_var 1) fc.f_len)) (gs_cons (gs_ret ge_bl)
    gs_nil) gs_nil)
    (gs_cons (gs_for hp rfl (gi_range1 (ge_len (ge_var 1) fc.f_len) fc.f_range) (gg_name 2 nd) (gs_cons (gs_if (gt_not (gt_tru (ge_fn (F 8 _ _ rfl) hr tk (gan_cons (ge_ix hu1 (ge_var 0) (ge_var 2)) (gan_cons (ge_ix hu1 (ge_var 1) (ge_var 2)) gan_nil))))) (gs_cons (gs_ret ge_bl)
    gs_nil) gs_nil)
    gs_nil))
    (gs_cons (gs_ret ge_bl)
    gs_nil)))
theorem k__law_same_items {fd : FuncData} (F : AllK P w K mg base sig k Γ) (hwW : w = TheWorld.w) (fc : Fc K mg) (U : FnP K "_law_same_items" 15 fd) : FnOk P w K mg base (L2.CX P w) (k + 1) (He.ga K "_law_same_items") fd ["actual", "expected"] (spG K (d__law_same_items Γ) 2) :=
  fn_G (k := k) U s__law_same_items (fun args h _ => .inl rfl) fun cdv A outer s H E hr hp tk => w__law_same_items F hwW fc hr hp tk
theorem s__law_same : FnScope ["actual", "expected", "key"] ["actual", "expected"] (defScope (top 16)) := ⟨rfl, rfl, rfl, by decide +kernel, rfl, by decide +kernel, by decide +kernel⟩
theorem w__law_same (F : AllK P w K mg base sig k Γ) (hwW : w = TheWorld.w) (fc : Fc K mg) {fa : Addr} {cdv : Value} {A : Around} {outer : List PySem.Env} {s : Shared} {H : Hp} {E : XK} (hr : Room k (A.deeper (envOfC "_law_same" (defScope (top 16)) s.heap.objs.size fa cdv)))
    (hp : PassesOwn (model P w) (A.deeper (envOfC "_law_same" (defScope (top 16)) s.heap.objs.size fa cdv)) (envOfC "_law_same" (defScope (top 16)) s.heap.objs.size fa cdv) (cxOf (L2.CX P w) P w K mg base ["actual", "expected", "key"] "_law_same" (defScope (top 16)) fa cdv A outer s H E).xe)
    (tk : Takes (cxOf (L2.CX P w) P w K mg base ["actual", "expected", "key"] "_law_same" (defScope (top 16)) fa cdv A outer s H E) (WD E)) :
    GSs (cxOf (L2.CX P w) P w K mg base ["actual", "expected", "key"] "_law_same" (defScope (top 16)) fa cdv A outer s H E) (WD E) (defBody (top 16)) (b__law_same Γ) := by
  have nd : (["actual", "expected", "key"] : List Str).Nodup := s__law_same.nd
  have hu : (cxOf (L2.CX P w) P w K mg base ["actual", "expected", "key"] "_law_same" (defScope (top 16)) fa cdv A outer s H E).A.units + 200 < cLine := by
    have := hr.un
    show (A.deeper (envOfC "_law_same" (defScope (top 16)) s.heap.objs.size fa cdv)).units + 200 < cLine
    omega
  have hu1 : (cxOf (L2.CX P w) P w K mg base ["actual", "expected", "key"] "_law_same" (defScope (top 16)) fa cdv A outer s H E).A.units + 1 < cLine := by omega
  exact (gs_cons (gs_if (gt_cmp og_isN (ge_var 1) ge_non) (gs_cons (gs_ret (ge_cmp og_isN (ge_var 0) ge_non))
    gs_nil) gs_nil)
    (gs_cons (gs_if (gt_tru (ge_isi .bool (ge_var 1) fc.f_isinstance fc.f_bool)) (gs_cons (gs_ret (ge_and (ge_isi .bool (ge_var 0) fc.f_isinstance fc.f_bool) (ge_one (ge_cmp (og_eq hu) (ge_var 0) (ge_var 1)))))
    gs_nil) gs_nil)
    (gs_cons (gs_if (gt_tru (ge_isi .int (ge_var 1) fc.f_isinstance fc.f_int)) (gs_cons (gs_ret (ge_and (ge_fn (F 6 _ _ rfl) hr tk (gan_cons (ge_var 0) gan_nil)) (ge_one (ge_cmp (og_eq hu) (ge_var 0) (ge_var 1)))))
    gs_nil) gs_nil)
    (gs_cons (gs_if (gt_tru (ge_isi .str (ge_var 1) fc.f_isinstance fc.f_str)) (gs_cons (gs_ret (ge_and (ge_isi .str (ge_var 0) fc.f_isinstance fc.f_str) (ge_one (ge_cmp (og_eq hu) (ge_var 0) (ge_var 1)))))
    gs_nil) gs_nil)
    (gs_cons (gs_if (gt_tru (ge_isi .tuple (ge_var 1) fc.f_isinstance fc.f_tuple)) (gs_cons (gs_ret (ge_and (ge_isi .tuple (ge_var 0) fc.f_isinstance fc.f_tuple) (ge_one (ge_fn (F 7 _ _ rfl) hr tk (gan_cons (ge_var 0) (gan_cons (ge_var 1) gan_nil))))))
    gs_nil) gs_nil)
    (gs_cons (gs_if (gt_tru (ge_isi .list (ge_var 1) fc.f_isinstance fc.f_list)) (gs_cons (gs_ret (ge_and (ge_isi .list (ge_var 0) fc.f_isinstance fc.f_list) (ge_one (ge_fn (F 7 _ _ rfl) hr tk (gan_cons (ge_var 0) (gan_cons (ge_var 1) gan_nil))))))
    gs_nil) gs_nil)
    (gs_cons (gs_if (GW.pt (gw_or (gt_not (gt_tru (ge_isi .dict (ge_var 0) fc.f_isinstance fc.f_dict))) (gw_or1 (gt_cmp (og_ne hu) (ge_len (ge_var 0) fc.f_len) (ge_len (ge_var 1) fc.f_len))))) (gs_cons (gs_ret ge_bl)
    gs_nil) gs_nil)
    (gs_cons (gs_for hp rfl (gi_seq (ge_var 1)) (gg_name 2 nd) (gs_cons (gs_if (GW.pt (gw_or (gt_cmp (og_notIn hu) (ge_var 2) (ge_var 0)) (gw_or1 (gt_not (gt_tru (ge_fn (F 8 _ _ rfl) hr tk (gan_cons (ge_ix hu1 (ge_var 0) (ge_var 2)) (gan_cons (ge_ix hu1 (ge_var 1) (ge_var 2)) gan_nil)))))))) (gs_cons (gs_ret ge_bl)
    gs_nil) gs_nil)
    gs_nil))
    (gs_cons (gs_for hp rfl (gi_seq (ge_var 0)) (gg_name 2 nd) (gs_cons (gs_if (gt_tru (ge_isi .bool (ge_var 2) fc.f_isinstance fc.f_bool)) (gs_cons (gs_ret ge_bl)
    gs_nil) gs_nil)
    gs_nil))
    (gs_cons (gs_ret ge_bl)
    gs_nil))))))))))
theorem k__law_same {fd : FuncData} (F : AllK P w K mg base sig k Γ) (hwW : w = TheWorld.w) (fc : Fc K mg) (U : FnP K "_law_same" 16 fd) : FnOk P w K mg base (L2.CX P w) (k + 1) (He.ga K "_law_same") fd ["actual", "expected"] (spG K (d__law_same Γ) 2) :=
  fn_G (k := k) U s__law_same (fun args h _ => .inl rfl) fun cdv A outer s H E hr hp tk => w__law_same F hwW fc hr hp tk
theorem s__law_kind : FnScope ["tape", "labels"] ["tape"] (defScope (top 17)) := ⟨rfl, rfl, rfl, by decide +kernel, rfl, by decide +kernel, by decide +kernel⟩
theorem w__law_kind (F : AllK P w K mg base sig k Γ) (hwW : w = TheWorld.w) (fc : Fc K mg) {fa : Addr} {cdv : Value} {A : Around} {outer : List PySem.Env} {s : Shared} {H : Hp} {E : XK} (hr : Room k (A.deeper (envOfC "_law_kind" (defScope (top 17)) s.heap.objs.size fa cdv)))
    (hp : PassesOwn (model P w) (A.deeper (envOfC "_law_kind" (defScope (top 17)) s.heap.objs.size fa cdv)) (envOfC "_law_kind" (defScope (top 17)) s.heap.objs.size fa cdv) (cxOf (L2.CX P w) P w K mg base ["tape", "labels"] "_law_kind" (defScope (top 17)) fa cdv A outer s H E).xe)
    (tk : Takes (cxOf (L2.CX P w) P w K mg base ["tape", "labels"] "_law_kind" (defScope (top 17)) fa cdv A outer s H E) (WD E)) :
    GSs (cxOf (L2.CX P w) P w K mg base ["tape", "labels"] "_law_kind" (defScope (top 17)) fa cdv A outer s H E) (WD E) (defBody (top 17)) (b__law_kind Γ) := by
  have nd : (["tape", "labels"] : List Str).Nodup := s__law_kind.nd
  have hu : (cxOf (L2.CX P w) P w K mg base ["tape", "labels"] "_law_kind" (defScope (top 17)) fa cdv A outer s H E).A.units + 200 < cLine := by
    have := hr.un
    show (A.deeper (envOfC "_law_kind" (defScope (top 17)) s.heap.objs.size fa cdv)).units + 200 < cLine
    omega
  have hu1 : (cxOf (L2.CX P w) P w K mg base ["tape", "labels"] "_law_kind" (defScope (top 17)) fa cdv A outer s H E).A.units + 1 < cLine := by omega
  exact (gs_cons (gs_set 1 (ge_ix hu1 (ge_tup (ga_cons (ge_tup (ga_cons (ge_str [97]) ga_nil)) (ga_cons (ge_tup (ga_cons (ge_str [97]) (ga_cons (ge_str [98]) ga_nil))) (ga_cons (ge_tup (ga_cons (ge_str [97]) (ga_cons (ge_str [98]) ga_nil))) (ga_cons (ge_tup (ga_cons (ge_str [98]) (ga_cons (ge_str [100]) (ga_cons (ge_str [122]) ga_nil)))) ga_nil))))) (ge_fn (F 5 _ _ rfl) hr tk (gan_cons (ge_var 0) (gan_cons ge_int gan_nil)))) nd)
    (gs_cons (gs_ret (ge_tup (ga_cons (ge_bin og_add ge_int (ge_bin og_div (ge_fn (F 5 _ _ rfl) hr tk (gan_cons (ge_var 0) (gan_cons ge_int gan_nil))) ge_int)) (ga_cons (ge_var 1) ga_nil))))
    gs_nil))
theorem k__law_kind {fd : FuncData} (F : AllK P w K mg base sig k Γ) (hwW : w = TheWorld.w) (fc : Fc K mg) (U : FnP K "_law_kind" 17 fd) : FnOk P w K mg base (L2.CX P w) (k + 1) (He.ga K "_law_kind") fd ["tape"] (spG K (d__law_kind Γ) 1) :=
  fn_G (k := k) U s__law_kind (fun args h _ => .inl rfl) fun cdv A outer s H E hr hp tk => w__law_kind F hwW fc hr hp tk
theorem s__law_text : FnScope ["shape"] ["shape"] (defScope (top 18)) := ⟨rfl, rfl, rfl, by decide +kernel, rfl, by decide +kernel, by decide +kernel⟩
theorem w__law_text (F : AllK P w K mg base sig k Γ) (hwW : w = TheWorld.w) (fc : Fc K mg) {fa : Addr} {cdv : Value} {A : Around} {outer : List PySem.Env} {s : Shared} {H : Hp} {E : XK} (hr : Room k (A.deeper (envOfC "_law_text" (defScope (top 18)) s.heap.objs.size fa cdv)))
    (hp : PassesOwn (model P w) (A.deeper (envOfC "_law_text" (defScope (top 18)) s.heap.objs.size fa cdv)) (envOfC "_law_text" (defScope (top 18)) s.heap.objs.size fa cdv) (cxOf (L2.CX P w) P w K mg base ["shape"] "_law_text" (defScope (top 18)) fa cdv A outer s H E).xe)
    (tk : Takes (cxOf (L2.CX P w) P w K mg base ["shape"] "_law_text" (defScope (top 18)) fa cdv A outer s H E) (WD E)) :
    GSs (cxOf (L2.CX P w) P w K mg base ["shape"] "_law_text" (defScope (top 18)) fa cdv A outer s H E) (WD E) (defBody (top 18)) (b__law_text Γ) := by
  have nd : (["shape"] : List Str).Nodup := s__law_text.nd
  have hu : (cxOf (L2.CX P w) P w K mg base ["shape"] "_law_text" (defScope (top 18)) fa cdv A outer s H E).A.units + 200 < cLine := by
    have := hr.un
    show (A.deeper (envOfC "_law_text" (defScope (top 18)) s.heap.objs.size fa cdv)).units + 200 < cLine
    omega
  have hu1 : (cxOf (L2.CX P w) P w K mg base ["shape"] "_law_text" (defScope (top 18)) fa cdv A outer s H E).A.units + 1 < cLine := by omega
  exact (gs_cons (gs_if (gt_cmp (og_eq hu) (ge_var 0) (ge_tup ga_nil)) (gs_cons (gs_ret (ge_str [46]))
    gs_nil) gs_nil)
    (gs_cons (gs_if (gt_cmp (og_eq hu) (ge_len (ge_var 0) fc.f_len) ge_int) (gs_cons (gs_ret (ge_bin og_add (ge_ix hu1 (ge_var 0) ge_int) (ge_fn (F 10 _ _ rfl) hr tk (gan_cons (ge_ix hu1 (ge_var 0) ge_int) gan_nil))))
    gs_nil) gs_nil)
    (gs_cons (gs_ret (ge_bin og_add (ge_bin og_add (ge_bin og_add (ge_bin og_add (ge_bin og_add (ge_ix hu1 (ge_var 0) ge_int) (ge_str [40])) (ge_fn (F 10 _ _ rfl) hr tk (gan_cons (ge_ix hu1 (ge_var 0) ge_int) gan_nil))) (ge_str [44])) (ge_fn (F 10 _ _ rfl) hr tk (gan_cons (ge_ix hu1 (ge_var 0) ge_int) gan_nil))) (ge_str [41])))
    gs_nil)))
theorem k__law_text {fd : FuncData} (F : AllK P w K mg base sig k Γ) (hwW : w = TheWorld.w) (fc : Fc K mg) (U : FnP K "_law_text" 18 fd) : FnOk P w K mg base (L2.CX P w) (k + 1) (He.ga K "_law_text") fd ["shape"] (spG K (d__law_text Γ) 1) :=
  fn_G (k := k) U s__law_text (fun args h _ => .inl rfl) fun cdv A outer s H E hr hp tk => w__law_text F hwW fc hr hp tk
theorem s__law_all : FnScope ["kind", "count", "sizes", "total", "found", "label", "left", "first", "child", "second"] ["kind", "count"] (defScope (top 19)) := ⟨rfl, rfl, rfl, by decide +kernel, rfl, by decide +kernel, by decide +kernel⟩
theorem w__law_all (F : AllK P w K mg base sig k Γ) (hwW : w = TheWorld.w) (fc : Fc K mg) {fa : Addr} {cdv : Value} (TB : LamX.TabB base mg (He.codeOf K (sOf [95, 108, 97, 119, 95, 97, 108, 108], none)) (tabA K [95, 108, 97, 119, 95, 97, 108, 108])) (hcv : cdv = .ref (He.codeOf K (sOf [95, 108, 97, 119, 95, 97, 108, 108], none))) {A : Around} {outer : List PySem.Env} {s : Shared} {H : Hp} {E : XK} (hr : Room (k + 1) (A.deeper (envOfC "_law_all" (defScope (top 19)) s.heap.objs.size fa cdv)))
    (hp : PassesOwn (model P w) (A.deeper (envOfC "_law_all" (defScope (top 19)) s.heap.objs.size fa cdv)) (envOfC "_law_all" (defScope (top 19)) s.heap.objs.size fa cdv) (cxOf (L2.CX P w) P w K mg base ["kind", "count", "sizes", "total", "found", "label", "left", "first", "child", "second"] "_law_all" (defScope (top 19)) fa cdv A outer s H E).xe)
    (tk : Takes (cxOf (L2.CX P w) P w K mg base ["kind", "count", "sizes", "total", "found", "label", "left", "first", "child", "second"] "_law_all" (defScope (top 19)) fa cdv A outer s H E) (WD E)) :
    GSs (cxOf (L2.CX P w) P w K mg base ["kind", "count", "sizes", "total", "found", "label", "left", "first", "child", "second"] "_law_all" (defScope (top 19)) fa cdv A outer s H E) (WD E) (defBody (top 19)) (b__law_all Γ) := by
  have nd : (["kind", "count", "sizes", "total", "found", "label", "left", "first", "child", "second"] : List Str).Nodup := s__law_all.nd
  have hu : (cxOf (L2.CX P w) P w K mg base ["kind", "count", "sizes", "total", "found", "label", "left", "first", "child", "second"] "_law_all" (defScope (top 19)) fa cdv A outer s H E).A.units + 200 < cLine := by
    have := hr.un
    show (A.deeper (envOfC "_law_all" (defScope (top 19)) s.heap.objs.size fa cdv)).units + 200 < cLine
    omega
  have hu1 : (cxOf (L2.CX P w) P w K mg base ["kind", "count", "sizes", "total", "found", "label", "left", "first", "child", "second"] "_law_all" (defScope (top 19)) fa cdv A outer s H E).A.units + 1 < cLine := by omega
  exact (gs_cons (gs_set 2 (ge_lstM (ga_cons (ge_lst (ga_cons (ge_tup ga_nil) ga_nil)) ga_nil)) nd)
    (gs_cons (gs_for hp rfl (gi_range2 ge_int (ge_bin og_add (ge_var 1) ge_int) fc.f_range) (gg_name 3 nd) (gs_cons (gs_set 4 (ge_lst ga_nil) nd)
    (gs_cons (gs_for hp rfl (gi_seq (ge_ix hu1 (ge_var 0) ge_int)) (gg_name 5 nd) (gs_cons (gs_if (gt_cmp (og_eq hu) (ge_ix hu1 (ge_var 0) ge_int) ge_int) (gs_cons (gs_set 4 (ge_bin og_add (ge_var 4) (ge_lc fin_frozen [("child", 8)] rfl nd (gi_seq (ge_ix hu1 (ge_var 2) (ge_bin og_sub (ge_var 3) ge_int))) (fun _ _ _ _ _ => (gc_name 8 nd)) (fun _ _ _ _ _ => gts_nil) (fun _ _ _ _ _ => (ge_tup (ga_cons (ge_var 5) (ga_cons (ge_var 8) ga_nil)))))) nd)
    gs_nil) (gs_cons (gs_for hp rfl (gi_range1 (ge_var 3) fc.f_range) (gg_name 6 nd) (gs_cons (gs_for hp rfl (gi_seq (ge_ix hu1 (ge_var 2) (ge_var 6))) (gg_name 7 nd) (gs_cons (gs_set 4 (ge_bin og_add (ge_var 4) (ge_lc fin_frozen [("second", 9)] rfl nd (gi_seq (ge_ix hu1 (ge_var 2) (ge_bin og_sub (ge_bin og_sub (ge_var 3) ge_int) (ge_var 6)))) (fun _ _ _ _ _ => (gc_name 9 nd)) (fun _ _ _ _ _ => gts_nil) (fun _ _ _ _ _ => (ge_tup (ga_cons (ge_var 5) (ga_cons (ge_var 7) (ga_cons (ge_var 9) ga_nil))))))) nd)
    gs_nil))
    gs_nil))
    gs_nil))
    gs_nil))
    (gs_cons (gs_expr (ge_append (ge_var 2) (ge_var 4)))
    gs_nil))))
    (gs_cons (gs_ret (ge_sortKey [95, 108, 97, 119, 95, 97, 108, 108] 0 (k := k) (x := "shape") fc.f_sorted (ge_ix hu1 (ge_var 2) (ge_var 1)) (by show (("_law_all" : Str) ++ ".<locals>." : Str) ++ "<lambda>" = qualL _; decide +kernel) TB hcv hr ⟨rfl, rfl, rfl, by decide +kernel, rfl, by decide +kernel, by decide +kernel⟩ (by rfl) (by rfl) (fun _ _ _ _ _ => rfl) (fun _ _ _ _ _ _ hr hu hu1 => (ge_fn (F 10 _ _ rfl) hr GH.takes0 (gan_cons (ge_var 0) gan_nil)))))
    gs_nil)))
theorem k__law_all {fd : FuncData} (F : AllK P w K mg base sig k Γ) (hwW : w = TheWorld.w) (fc : Fc K mg) (TB : LamX.TabB base mg (He.codeOf K (sOf [95, 108, 97, 119, 95, 97, 108, 108], none)) (tabA K [95, 108, 97, 119, 95, 97, 108, 108])) (U : FnP K "_law_all" 19 fd) : FnOk P w K mg base (L2.CX P w) (k + 1 + 1) (He.ga K "_law_all") fd ["kind", "count"] (spG K (d__law_all Γ) 2) :=
  fn_GT (k := k + 1) U s__law_all (fun args h _ => .inr rfl) fun cdv hcv A outer s H E hr hp tk => w__law_all F hwW fc TB (hcv (sOf [95, 108, 97, 119, 95, 97, 108, 108], none) (by rw [show sOf [95, 108, 97, 119, 95, 97, 108, 108] = ("_law_all" : Str) from by decide +kernel]; rfl)) hr hp tk
theorem s__law_number : FnScope ["kind", "count", "found", "total", "many", "left"] ["kind", "count"] (defScope (top 20)) := ⟨rfl, rfl, rfl, by decide +kernel, rfl, by decide +kernel, by decide +kernel⟩
theorem w__law_number (F : AllK P w K mg base sig k Γ) (hwW : w = TheWorld.w) (fc : Fc K mg) {fa : Addr} {cdv : Value} {A : Around} {outer : List PySem.Env} {s : Shared} {H : Hp} {E : XK} (hr : Room k (A.deeper (envOfC "_law_number" (defScope (top 20)) s.heap.objs.size fa cdv)))
    (hp : PassesOwn (model P w) (A.deeper (envOfC "_law_number" (defScope (top 20)) s.heap.objs.size fa cdv)) (envOfC "_law_number" (defScope (top 20)) s.heap.objs.size fa cdv) (cxOf (L2.CX P w) P w K mg base ["kind", "count", "found", "total", "many", "left"] "_law_number" (defScope (top 20)) fa cdv A outer s H E).xe)
    (tk : Takes (cxOf (L2.CX P w) P w K mg base ["kind", "count", "found", "total", "many", "left"] "_law_number" (defScope (top 20)) fa cdv A outer s H E) (WD E)) :
    GSs (cxOf (L2.CX P w) P w K mg base ["kind", "count", "found", "total", "many", "left"] "_law_number" (defScope (top 20)) fa cdv A outer s H E) (WD E) (defBody (top 20)) (b__law_number Γ) := by
  have nd : (["kind", "count", "found", "total", "many", "left"] : List Str).Nodup := s__law_number.nd
  have hu : (cxOf (L2.CX P w) P w K mg base ["kind", "count", "found", "total", "many", "left"] "_law_number" (defScope (top 20)) fa cdv A outer s H E).A.units + 200 < cLine := by
    have := hr.un
    show (A.deeper (envOfC "_law_number" (defScope (top 20)) s.heap.objs.size fa cdv)).units + 200 < cLine
    omega
  have hu1 : (cxOf (L2.CX P w) P w K mg base ["kind", "count", "found", "total", "many", "left"] "_law_number" (defScope (top 20)) fa cdv A outer s H E).A.units + 1 < cLine := by omega
  exact (gs_cons (gs_set 2 (ge_lstM (ga_cons ge_int ga_nil)) nd)
    (gs_cons (gs_for hp rfl (gi_range2 ge_int (ge_bin og_add (ge_var 1) ge_int) fc.f_range) (gg_name 3 nd) (gs_cons (gs_set 4 (ge_if (gt_cmp (og_eq hu) (ge_ix hu1 (ge_var 0) ge_int) ge_int) (ge_ix hu1 (ge_var 2) (ge_neg ge_int)) (ge_b1 (c1_sum rfl) (ge_lc fin_frozen [("left", 5)] rfl nd (gi_range1 (ge_var 3) fc.f_range) (fun _ _ _ _ _ => (gc_name 5 nd)) (fun _ _ _ _ _ => gts_nil) (fun _ _ _ _ _ => (ge_bin og_mul (ge_ix hu1 (ge_var 2) (ge_var 5)) (ge_ix hu1 (ge_var 2) (ge_bin og_sub (ge_bin og_sub (ge_var 3) ge_int) (ge_var 5)))))) fc.f_sum)) nd)
    (gs_cons (gs_expr (ge_append (ge_var 2) (ge_bin og_mul (ge_len (ge_ix hu1 (ge_var 0) ge_int) fc.f_len) (ge_var 4))))
    gs_nil)))
    (gs_cons (gs_ret (ge_ix hu1 (ge_var 2) (ge_var 1)))
    gs_nil)))
theorem k__law_number {fd : FuncData} (F : AllK P w K mg base sig k Γ) (hwW : w = TheWorld.w) (fc : Fc K mg) (U : FnP K "_law_number" 20 fd) : FnOk P w K mg base (L2.CX P w) (k + 1) (He.ga K "_law_number") fd ["kind", "count"] (spG K (d__law_number Γ) 2) :=
  fn_G (k := k) U s__law_number (fun args h _ => .inr rfl) fun cdv A outer s H E hr hp tk => w__law_number F hwW fc hr hp tk
theorem s_law : FnScope ["script", "tape", "kind", "count", "number", "found"] ["script"] (defScope (top 21)) := ⟨rfl, rfl, rfl, by decide +kernel, rfl, by decide +kernel, by decide +kernel⟩
theorem w_law (F : AllK P w K mg base sig k Γ) (hwW : w = TheWorld.w) (fc : Fc K mg) {fa : Addr} {cdv : Value} {A : Around} {outer : List PySem.Env} {s : Shared} {H : Hp} {E : XK} (hr : Room k (A.deeper (envOfC "law" (defScope (top 21)) s.heap.objs.size fa cdv)))
    (hp : PassesOwn (model P w) (A.deeper (envOfC "law" (defScope (top 21)) s.heap.objs.size fa cdv)) (envOfC "law" (defScope (top 21)) s.heap.objs.size fa cdv) (cxOf (L2.CX P w) P w K mg base ["script", "tape", "kind", "count", "number", "found"] "law" (defScope (top 21)) fa cdv A outer s H E).xe)
    (tk : Takes (cxOf (L2.CX P w) P w K mg base ["script", "tape", "kind", "count", "number", "found"] "law" (defScope (top 21)) fa cdv A outer s H E) (WD E)) :
    GSs (cxOf (L2.CX P w) P w K mg base ["script", "tape", "kind", "count", "number", "found"] "law" (defScope (top 21)) fa cdv A outer s H E) (WD E) (defBody (top 21)) (b_law Γ) := by
  have nd : (["script", "tape", "kind", "count", "number", "found"] : List Str).Nodup := s_law.nd
  have hu : (cxOf (L2.CX P w) P w K mg base ["script", "tape", "kind", "count", "number", "found"] "law" (defScope (top 21)) fa cdv A outer s H E).A.units + 200 < cLine := by
    have := hr.un
    show (A.deeper (envOfC "law" (defScope (top 21)) s.heap.objs.size fa cdv)).units + 200 < cLine
    omega
  have hu1 : (cxOf (L2.CX P w) P w K mg base ["script", "tape", "kind", "count", "number", "found"] "law" (defScope (top 21)) fa cdv A outer s H E).A.units + 1 < cLine := by omega
  exact (gs_cons (gs_set 1 (ge_fn (F 4 _ _ rfl) hr tk (gan_cons (ge_var 0) gan_nil)) nd)
    (gs_cons (gs_set 2 (ge_fn (F 9 _ _ rfl) hr tk (gan_cons (ge_var 1) gan_nil)) nd)
    (gs_cons (gs_set 3 (ge_fn (F 5 _ _ rfl) hr tk (gan_cons (ge_var 1) (gan_cons ge_int gan_nil))) nd)
    (gs_cons (gs_if (gt_cmp (og_eq hu) (ge_fn (F 5 _ _ rfl) hr tk (gan_cons (ge_var 1) (gan_cons ge_int gan_nil))) ge_int) (gs_cons (gs_set 3 (ge_fn (F 5 _ _ rfl) hr tk (gan_cons (ge_var 1) (gan_cons ge_int gan_nil))) nd)
    gs_nil) gs_nil)
    (gs_cons (gs_set 4 (ge_fn (F 12 _ _ rfl) hr tk (gan_cons (ge_var 2) (gan_cons (ge_var 3) gan_nil))) nd)
    (gs_cons (gs_if (gt_chain og_lt og_le ge_int (ge_var 4) ge_int) (gs_cons (gs_ret ge_bl)
    gs_nil) gs_nil)
    (gs_cons (gs_try [([83, 97, 121, 69, 114, 114, 111, 114], false), ([73, 110, 118, 97, 108, 105, 100, 75, 105, 110, 100], false), ([84, 111, 111, 76, 97, 114, 103, 101], true)] rfl rfl ⟨rfl, by decide +kernel, .inl fc.e_TooLarge.2.2.2.2⟩ tk fc.m_TooLarge (fun _ _ _ tk hp => (gs_cons (gs_set 5 (ge_fn (F 3 _ _ rfl) hr tk (gan_cons (ge_var 2) (gan_cons (ge_var 3) gan_nil))) nd)
    gs_nil)) (fun _ _ => (gs_cons (gs_ret (ge_cmp og_gt (ge_var 4) ge_int))
    gs_nil)))
    (gs_cons (gs_ret (ge_and (ge_cmp og_le (ge_var 4) ge_int) (ge_one (ge_fn (F 8 _ _ rfl) hr tk (gan_cons (ge_var 5) (gan_cons (ge_fn (F 11 _ _ rfl) hr tk (gan_cons (ge_var 2) (gan_cons (ge_var 3) gan_nil))) gan_nil))))))
    gs_nil))))))))
theorem k_law {fd : FuncData} (F : AllK P w K mg base sig k Γ) (hwW : w = TheWorld.w) (fc : Fc K mg) (U : FnP K "law" 21 fd) : FnOk P w K mg base (L2.CX P w) (k + 1) (He.ga K "law") fd ["script"] (spG K (d_law Γ) 1) :=
  fn_G (k := k) U s_law (fun args h _ => .inl rfl) fun cdv A outer s H E hr hp tk => w_law F hwW fc hr hp tk
end
end L02
set_option Elab.async false
set_option linter.all false
set_option maxRecDepth 100000
set_option maxHeartbeats 1000000
set_option autoImplicit false
namespace L02
open GH PySem
variable [TheWorld]
theorem take_l {k : Nat} {m : Int} {a0 o : Ob} {g : Hv} {P : Val → Hv → Prop} (ho : TapeOb o) (hm : 0 < m) (hm2 : m < 1073741824)
    (kk : ∀ r o', 0 ≤ r → r < m → TapeOb o' → P (.int r) (a0 :: o' :: g)) : ok (lev D (k + 1) 5 [.ref 1, .int m] (a0 :: o :: g)) P := take_sp1 hm hm2 ho kk
theorem lv {K K' j : Nat} {a : List Val} {h : Hv} {P : Val → Hv → Prop} (e : K = K') (z : ok (lev D K' j a h) P) : ok (lev D K j a h) P := by subst e; exact z
/-! what is the same -/
def Pl : Nat → Val → Prop
  | _, .bl _ => True
  | _, .int _ => True
  | _, .str _ => True
  | d + 1, .tup l => l.length ≤ 16777216 ∧ ∀ v ∈ l, Pl d v
  | d + 1, .lst l => l.length ≤ 16777216 ∧ ∀ v ∈ l, Pl d v
  | _, _ => False
theorem same_items {k : Nat} {v : Val} {l : List Val} {h : Hv} {P : Val → Hv → Prop} (hv : vLen v h = .ok (.int l.length) h) (hx : ∀ (j : Nat) u, l[j]? = some u → vIx v (.int j) h = .ok u h) (hl : l.length ≤ 16777216)
    (ih : ∀ u ∈ l, ∀ (P : Val → Hv → Prop), P (.bl true) h → ok (lev D k 8 [u, u] h) P) (z : P (.bl true) h) : ok (lev D (k + 1) 7 [v, v] h) P := by
  show ok (runDef 3 (b__law_same_items (lev D k)) [v, v] h) P
  rw [ok_run]
  refine if_ (c := false) (h := h) (by simp [dVar, hv]) (fun z => by cases z) fun _ => ?_
  refine sok_seqo (fun l' h' => (∃ x, l' = [some v, some v, x]) ∧ h' = h) ?_ ?_
  · intro R' hR
    simp only [e_for, e_rng1, e_len, dVar, List.map_cons, List.map_nil, List.cons_append, List.nil_append, List.getElem?_cons_succ, List.getElem?_cons_zero, Res.bind_ok, hv, rng_ok hl, Res.to_ok]
    refine forL_invo (fun items l' h' => (∀ x ∈ items, ∃ j : Nat, j < l.length ∧ x = .int j) ∧ (∃ x, l' = [some v, some v, x]) ∧ h' = h) ?_ ?_ _ _ _ ?_
    · intro I' hI x r l' h' ⟨hit, ⟨y, hl'⟩, eh⟩
      subst hl' eh
      obtain ⟨j, hj, rfl⟩ := hit x (List.mem_cons_self ..)
      refine ⟨trivial, ?_⟩
      have hu : l[j]? = some l[j] := List.getElem?_eq_getElem hj
      simp only [e_name, tok_ok, List.set_cons_succ, List.set_cons_zero]
      refine ifk_ ?_
      simp [dVar, hx j _ hu]
      refine ih _ (List.getElem_mem hj) _ ?_
      simp
      exact hI _ _ _ ⟨fun x hx => hit x (List.mem_cons_of_mem _ hx), ⟨_, rfl⟩, rfl⟩
    · intro l' h' ⟨_, ⟨y, hl'⟩, eh⟩
      subst hl' eh
      exact ⟨trivial, hR _ _ ⟨⟨_, rfl⟩, rfl⟩⟩
    · refine ⟨fun x hx => ?_, ⟨none, rfl⟩, rfl⟩
      obtain ⟨j, hj, rfl⟩ := rng_mem hx
      exact ⟨j, hj, rfl⟩
  · rintro l' h' ⟨⟨x, rfl⟩, rfl⟩
    exact ret_ (by simpa using z)
theorem same_refl : ∀ (d : Nat) (v : Val), Pl d v → ∀ {k : Nat} {h : Hv} {P : Val → Hv → Prop}, P (.bl true) h → ok (lev D (k + 2 * d + 2) 8 [v, v] h) P := by
  intro d
  induction d with
  | zero =>
    intro v hv k h P z
    show ok (runDef 3 (b__law_same (lev D (k + 1))) [v, v] h) P
    rw [ok_run]
    cases v with
    | bl b => exact if_ (c := false) (h := h) (by simp [dVar, vIsN, isNon]) (fun z => by cases z) fun _ => if_ (c := true) (h := h) (by simp [dVar, tyOf, isiB]) (fun _ => ret_ (by simp [dVar, tyOf, isiB]; exact z)) (fun z => by cases z)
    | int i =>
      refine if_ (c := false) (h := h) (by simp [dVar, vIsN, isNon]) (fun z => by cases z) fun _ => if_ (c := false) (h := h) (by simp [dVar, tyOf, isiB]) (fun z => by cases z) fun _ => if_ (c := true) (h := h) (by simp [dVar, tyOf, isiB]) (fun _ => ret_ ?_) (fun z => by cases z)
      simp only [e_andv, e_call, e_cons, e_nil, dVar, List.map_cons, List.map_nil, List.cons_append, List.nil_append, List.getElem?_cons_succ, List.getElem?_cons_zero, Res.bind_ok, ok_bind]
      show ok (runDef 1 (b__law_is_integer (lev D k)) [.int i] h) _
      rw [ok_run]
      refine ret_ ?_
      simp [dVar, tyOf, isiB]
      exact z
    | str s => exact if_ (c := false) (h := h) (by simp [dVar, vIsN, isNon]) (fun z => by cases z) fun _ => if_ (c := false) (h := h) (by simp [dVar, tyOf, isiB]) (fun z => by cases z) fun _ => if_ (c := false) (h := h) (by simp [dVar, tyOf, isiB]) (fun z => by cases z) fun _ => if_ (c := true) (h := h) (by simp [dVar, tyOf, isiB]) (fun _ => ret_ (by simp [dVar, tyOf, isiB]; exact z)) (fun z => by cases z)
    | _ => cases hv
  | succ d ih =>
    intro v hv k h P z
    have lo : ∀ w, Pl 0 w → ok (lev D (k + 2 * (d + 1) + 2) 8 [w, w] h) P → ok (lev D (k + 2 * (d + 1) + 2) 8 [w, w] h) P := fun _ _ q => q
    show ok (runDef 3 (b__law_same (lev D (k + 2 * (d + 1) + 1))) [v, v] h) P
    rw [ok_run]
    cases v with
    | bl b => exact if_ (c := false) (h := h) (by simp [dVar, vIsN, isNon]) (fun z => by cases z) fun _ => if_ (c := true) (h := h) (by simp [dVar, tyOf, isiB]) (fun _ => ret_ (by simp [dVar, tyOf, isiB]; exact z)) (fun z => by cases z)
    | int i =>
      refine if_ (c := false) (h := h) (by simp [dVar, vIsN, isNon]) (fun z => by cases z) fun _ => if_ (c := false) (h := h) (by simp [dVar, tyOf, isiB]) (fun z => by cases z) fun _ => if_ (c := true) (h := h) (by simp [dVar, tyOf, isiB]) (fun _ => ret_ ?_) (fun z => by cases z)
      simp only [e_andv, e_call, e_cons, e_nil, dVar, List.map_cons, List.map_nil, List.cons_append, List.nil_append, List.getElem?_cons_succ, List.getElem?_cons_zero, Res.bind_ok, ok_bind]
      show ok (runDef 1 (b__law_is_integer (lev D (k + 2 * (d + 1)))) [.int i] h) _
      rw [ok_run]
      refine ret_ ?_
      simp [dVar, tyOf, isiB]
      exact z
    | str s => exact if_ (c := false) (h := h) (by simp [dVar, vIsN, isNon]) (fun z => by cases z) fun _ => if_ (c := false) (h := h) (by simp [dVar, tyOf, isiB]) (fun z => by cases z) fun _ => if_ (c := false) (h := h) (by simp [dVar, tyOf, isiB]) (fun z => by cases z) fun _ => if_ (c := true) (h := h) (by simp [dVar, tyOf, isiB]) (fun _ => ret_ (by simp [dVar, tyOf, isiB]; exact z)) (fun z => by cases z)
    | tup l =>
      refine if_ (c := false) (h := h) (by simp [dVar, vIsN, isNon]) (fun z => by cases z) fun _ => if_ (c := false) (h := h) (by simp [dVar, tyOf, isiB]) (fun z => by cases z) fun _ => if_ (c := false) (h := h) (by simp [dVar, tyOf, isiB]) (fun z => by cases z) fun _ => if_ (c := false) (h := h) (by simp [dVar, tyOf, isiB]) (fun z => by cases z) fun _ => if_ (c := true) (h := h) (by simp [dVar, tyOf, isiB]) (fun _ => ret_ ?_) (fun z => by cases z)
      simp [dVar, tyOf, isiB]
      refine lv (show k + 2 * (d + 1) + 1 = (k + 2 * d + 2) + 1 by omega) ?_
      exact same_items (l := l) (by simp) (fun j u e => vIx_tup (nth_nat e)) hv.1 (fun u hu P z => ih u (hv.2 u hu) z) z
    | lst l =>
      refine if_ (c := false) (h := h) (by simp [dVar, vIsN, isNon]) (fun z => by cases z) fun _ => if_ (c := false) (h := h) (by simp [dVar, tyOf, isiB]) (fun z => by cases z) fun _ => if_ (c := false) (h := h) (by simp [dVar, tyOf, isiB]) (fun z => by cases z) fun _ => if_ (c := false) (h := h) (by simp [dVar, tyOf, isiB]) (fun z => by cases z) fun _ => if_ (c := false) (h := h) (by simp [dVar, tyOf, isiB]) (fun z => by cases z) fun _ => if_ (c := true) (h := h) (by simp [dVar, tyOf, isiB]) (fun _ => ret_ ?_) (fun z => by cases z)
      simp [dVar, tyOf, isiB]
      refine lv (show k + 2 * (d + 1) + 1 = (k + 2 * d + 2) + 1 by omega) ?_
      exact same_items (l := l) (by simp) (fun j u e => vIx_lst (nth_nat e)) hv.1 (fun u hu P z => ih u (hv.2 u hu) z) z
    | _ => cases hv
end L02
set_option Elab.async false
set_option linter.all false
set_option maxRecDepth 100000
set_option maxHeartbeats 1000000
set_option autoImplicit false
namespace L02
open GH PySem
variable [TheWorld]
abbrev kv (n : Int) (ls : List Tx) : Val := .tup [.int n, .tup (ls.map .str)]
structure KOk (n : Int) (ls : List Tx) : Prop where
  n : n = 1 ∨ n = 2
  l : ls = [[97]] ∨ ls = [[97], [98]] ∨ ls = [[98], [100], [122]]
theorem KOk.tx {n : Int} {ls : List Tx} (q : KOk n ls) : TxOk ls := by
  rcases q.l with rfl | rfl | rfl <;> decide +kernel
theorem kind_a {n : Int} {ls : List Tx} (q : KOk n ls) {k : Nat} {h : Hv} : lev D (k + 1) 0 [kv n ls] h = .ok .non h := by
  have hn : vNotIn (.int n) (.tup [.int 1, .int 2]) h = .ok (.bl false) h := by
    rcases q.n with rfl | rfl <;> rfl
  have hv : vSortSet (.tup (ls.map .str)) h = .ok (.lst (ls.map .str)) h := by
    have nd : ls.Nodup := by rcases q.l with rfl | rfl | rfl <;> decide
    have si : srt ls = ls := srt_id (by rcases q.l with rfl | rfl | rfl <;> decide +kernel)
    have := vSortSet_txt (L := ls) (M := ls) (v := .tup (ls.map .str)) (h := h) rfl (by rcases q.l with rfl | rfl | rfl <;> decide) nd fun x => Iff.rfl
    rwa [si] at this
  have hl : 1 ≤ ls.length ∧ ls.length ≤ 3 := by rcases q.l with rfl | rfl | rfl <;> decide
  have h1 : ((ls.length : Nat) : Int) ≤ 3 := by omega
  have h2 : (1 : Int) ≤ ((ls.length : Nat) : Int) := by omega
  have hne : vNe (.lst (ls.map .str)) (.lst (ls.map .str)) h = .ok (.bl false) h := by
    rcases q.l with rfl | rfl | rfl <;> rfl
  have hin : ∀ x ∈ ls, x.length = 1 ∧ vIn (.str x) (.str [97, 98, 99, 100, 101, 102, 103, 104, 105, 106, 107, 108, 109, 110, 111, 112, 113, 114, 115, 116, 117, 118, 119, 120, 121, 122]) h = .ok (.bl true) h := by
    rcases q.l with rfl | rfl | rfl <;> simp <;> (repeat' constructor)
  refine eq_of ?_
  show ok (runDef 4 (b_check_kind (lev D k)) [kv n ls] h) _
  rw [ok_run]
  refine sok_seqo (fun l h' => l = [some (kv n ls), some (.int n), some (.tup (ls.map .str)), none] ∧ h' = h) (fun R' hR => ?_) ?_
  · simp [dVar, gTup, gsCons, gsNil]
    exact hR _ _ ⟨rfl, rfl⟩
  rintro l h' ⟨rfl, e⟩
  rw [e]
  refine if_ (c := false) (h := h) ?_ (fun z => by cases z) fun _ => ?_
  · simp [dVar, mkT_ok, hn, h1, h2, vList, seqOf, hv, hne]
  refine if_ (c := false) (h := h) ?_ (fun z => by cases z) fun _ => ?_
  · simp only [e_not, e_tru, e_fn, dLc, e_iseq, dVar, List.getElem?_cons_succ, List.getElem?_cons_zero, Res.bind_ok, vIter_tup]
    rw [lcL_mapL Val.str (fun _ => .bl true) (srcOk_none _ _) ls [] fun x hx => ⟨_, rfl, by
      have hlen : vLen (.str x) h = .ok (.int 1) h := by simp [vLen, (hin x hx).1, lineN]
      simp [wipeL, dVar, hlen, (hin x hx).2]⟩]
    simp only [List.nil_append, frozen, Res.bind_ok]
    rw [show ls.map (fun _ => Val.bl true) = (ls.map fun _ => true).map Val.bl by simp, vAll_bls]
    simp
  · simp
section
variable {n : Nat} {b : Stm} {args : List Val} {h h1 : Hv} {l' : GH.Loc}
theorem run_nx (e : b (args.map some ++ List.replicate (n - args.length) none) h = .nx l' h1) : runDef n b args h = .ok .non h1 := by simp only [runDef, e]
theorem run_rt {v : Val} (e : b (args.map some ++ List.replicate (n - args.length) none) h = .rt v h1) : runDef n b args h = .ok v h1 := by simp only [runDef, e]
theorem run_exc {x : Ex} (e : b (args.map some ++ List.replicate (n - args.length) none) h = .exc x l' h1) : runDef n b args h = .exc x h1 := by simp only [runDef, e]
end
theorem expr_eq {d : Den} {rest : Stm} {l : GH.Loc} {h h1 : Hv} {v : Val} (e : d l h = .ok v h1) : sSeq (sExpr d) rest l h = rest l h1 := by
  rw [e_seq, e_expr, e]
  rfl
theorem expr_ex {d : Den} {rest : Stm} {l : GH.Loc} {h h1 : Hv} {x : Ex} (e : d l h = .exc x h1) : sSeq (sExpr d) rest l h = .exc x l h1 := by
  rw [e_seq, e_expr, e]
  rfl
theorem raise_if {t : DenG Bool} {E : Tx} {rest : Stm} {l : GH.Loc} {h : Hv} {c : Bool} (e : t l h = .ok c h) : sSeq (sIf t (sSeq (sRaise E) sNext) sNext) rest l h = if c = true then .exc ⟨E, []⟩ l h else rest l h := by
  rw [e_seq, e_if, e]
  cases c <;> rfl
theorem asg_eq {d : Den} {t : Tg} {rest : Stm} {l l1 : GH.Loc} {h h1 : Hv} {v : Val} (e : d l h = .ok v h1) (e2 : t v l h1 = .ok l1 h1) : sSeq (sAsg d t) rest l h = rest l1 h1 := by
  rw [e_seq, e_asg, e]
  simp [e2]
theorem kind_sp {k : Nat} {a0 o : Ob} {g : Hv} {P : Val → Hv → Prop} (ho : TapeOb o) (kk : ∀ (n : Int) (ls : List Tx) o', KOk n ls → TapeOb o' → P (kv n ls) (a0 :: o' :: g)) :
    ok (lev D (k + 2) 9 [.ref 1] (a0 :: o :: g)) P := by
  show ok (runDef 2 (b__law_kind (lev D (k + 1))) [.ref 1] (a0 :: o :: g)) P
  rw [ok_run]
  refine sok_seqo (fun l h => ∃ (ls : List Tx) (o' : Ob), (ls = [[97]] ∨ ls = [[97], [98]] ∨ ls = [[98], [100], [122]]) ∧ TapeOb o' ∧ l = [some (.ref 1), some (.tup (ls.map .str))] ∧ h = a0 :: o' :: g) (fun R' hR => ?_) ?_
  · simp [dVar, mkTup, lineN]
    refine take_l ho (by omega) (by omega) fun r o' h0 h1 ho' => ?_
    obtain rfl | rfl | rfl | rfl : r = 0 ∨ r = 1 ∨ r = 2 ∨ r = 3 := by omega
    · rw [vIx_tup (v := .tup [.str [97]]) rfl]; exact hR _ _ ⟨[[97]], o', .inl rfl, ho', rfl, rfl⟩
    · rw [vIx_tup (v := .tup [.str [97], .str [98]]) rfl]; exact hR _ _ ⟨[[97], [98]], o', .inr (.inl rfl), ho', rfl, rfl⟩
    · rw [vIx_tup (v := .tup [.str [97], .str [98]]) rfl]; exact hR _ _ ⟨[[97], [98]], o', .inr (.inl rfl), ho', rfl, rfl⟩
    · rw [vIx_tup (v := .tup [.str [98], .str [100], .str [122]]) rfl]; exact hR _ _ ⟨[[98], [100], [122]], o', .inr (.inr rfl), ho', rfl, rfl⟩
  · rintro l h ⟨ls, o', h1, h3, rfl, rfl⟩
    simp [dVar, mkTup, lineN]
    refine take_l h3 (by omega) (by omega) fun r o'' h0 h4 ho' => ?_
    simp [vDiv_ok _ (show (0 : Int) < 3 by omega) (show (3 : Int) < 1073741824 by omega)]
    exact kk _ ls o'' ⟨by omega, h1⟩ ho'
section
variable {t : DenG Bool} {a b : Stm} {l : GH.Loc} {h h1 : Hv} {Q : Post} {c : Bool}
theorem sif_ (e : t l h = .ok c h1) (z1 : c = true → sok (a l h1) Q) (z2 : c = false → sok (b l h1) Q) : sok (sIf t a b l h) Q := by
  rw [e_if, e]
  cases c with
  | true => simpa using z1 rfl
  | false => simpa using z2 rfl
theorem sifk_ (e : ok (t l h) fun c h1 => (c = true → sok (a l h1) Q) ∧ (c = false → sok (b l h1) Q)) : sok (sIf t a b l h) Q := by
  rw [e_if, sok_to]
  refine ok_imp e fun c h1 z => ?_
  cases c with
  | true => simpa using z.1 rfl
  | false => simpa using z.2 rfl
end

/-! shapes -/
inductive Sh where
  | nil | one (l : Tx) (c : Sh) | two (l : Tx) (a b : Sh)
def Sh.val : Sh → Val
  | .nil => .tup []
  | .one l c => .tup [.str l, c.val]
  | .two l a b => .tup [.str l, a.val, b.val]
def Sh.ok (n : Int) (ls : List Tx) : Sh → Prop
  | .nil => True
  | .one l c => n = 1 ∧ l ∈ ls ∧ c.ok n ls
  | .two l a b => n = 2 ∧ l ∈ ls ∧ a.ok n ls ∧ b.ok n ls
def Sh.size : Sh → Nat
  | .nil => 0
  | .one _ c => c.size + 1
  | .two _ a b => a.size + b.size + 1
def Sh.txt : Sh → Tx
  | .nil => [46]
  | .one l c => l ++ c.txt
  | .two l a b => l ++ [40] ++ a.txt ++ [44] ++ b.txt ++ [41]
theorem KOk.one {n : Int} {ls : List Tx} (q : KOk n ls) : ∀ l ∈ ls, ∃ c, l = [c] ∧ 97 ≤ c ∧ c ≤ 122 := by
  rcases q.l with rfl | rfl | rfl <;> simp
theorem Sh.okv {n : Int} {ls : List Tx} (kk : KOk n ls) : ∀ {s : Sh}, s.ok n ls → okV s.val = true
  | .nil, _ => rfl
  | .one l c, g => by simp only [Sh.val, okV, okVs, Bool.and_true]; rw [Sh.okv kk g.2.2]; simpa [okV] using kk.tx l g.2.1
  | .two l a b, g => by simp only [Sh.val, okV, okVs, Bool.and_true]; rw [Sh.okv kk g.2.2.1, Sh.okv kk g.2.2.2]; simpa [okV] using kk.tx l g.2.1
def Sh.isNil : Sh → Bool
  | .nil => true
  | _ => false
theorem eq_nil {s : Sh} {h : Hv} (o : okV s.val = true) : vEq s.val (.tup []) h = .ok (.bl s.isNil) h := by
  cases s with
  | nil => rfl
  | one l c =>
    simp only [Sh.val] at o ⊢
    simp only [vEq, thaw, eqOk, o, okV, okVs, dpV, dpVs, Bool.and_true, Bool.true_and]
    rw [if_pos (by simp)]
    rfl
  | two l a b =>
    simp only [Sh.val] at o ⊢
    simp only [vEq, thaw, eqOk, o, okV, okVs, dpV, dpVs, Bool.and_true, Bool.true_and]
    rw [if_pos (by simp)]
    rfl
theorem txt_len {n : Int} {ls : List Tx} (kk : KOk n ls) : ∀ {s : Sh}, s.ok n ls → s.txt.length ≤ 5 * s.size + 1
  | .nil, _ => by simp [Sh.txt]
  | .one l c, g => by
    obtain ⟨x, rfl, _⟩ := kk.one l g.2.1
    have := txt_len kk g.2.2
    simp [Sh.txt, Sh.size]; omega
  | .two l a b, g => by
    obtain ⟨x, rfl, _⟩ := kk.one l g.2.1
    have := txt_len kk g.2.2.1
    have := txt_len kk g.2.2.2
    simp [Sh.txt, Sh.size]; omega
theorem text_b {n : Int} {ls : List Tx} (kk : KOk n ls) : ∀ (s : Sh), s.ok n ls → s.size ≤ 1000 → ∀ {k : Nat} {h : Hv}, lev D (k + s.size + 1) 10 [s.val] h = .ok (.str s.txt) h
  | .nil, g, _, k, h => by
    refine eq_of ?_
    show ok (runDef 1 (b__law_text (lev D (k + 0))) [Sh.nil.val] h) _
    rw [ok_run]
    refine if_ (c := true) (h := h) (by simp [dVar, mkT_ok, eq_nil (s := .nil) rfl, Sh.isNil]) (fun _ => ret_ (by simp [Sh.txt])) (fun z => by cases z)
  | .one l c, g, hs, k, h => by
    refine eq_of ?_
    simp only [Sh.size] at hs
    have o := Sh.okv kk (s := .one l c) g
    have ih := text_b kk c g.2.2 (by omega) (k := k) (h := h)
    have hl := txt_len kk (s := .one l c) g
    simp only [Sh.txt, List.length_append, Sh.size] at hl
    show ok (runDef 1 (b__law_text (lev D (k + c.size + 1))) [(Sh.one l c).val] h) _
    rw [ok_run]
    refine if_ (c := false) (h := h) (by simp [dVar, mkT_ok, eq_nil o, Sh.isNil]) (fun z => by cases z) (fun _ => ?_)
    refine if_ (c := true) (h := h) (by simp [dVar, Sh.val]) (fun _ => ret_ ?_) (fun z => by cases z)
    simp [dVar, Sh.val, ih, Sh.txt]
    rw [add_str (by omega)]
    simp
  | .two l a b, g, hs, k, h => by
    refine eq_of ?_
    simp only [Sh.size] at hs
    have o := Sh.okv kk (s := .two l a b) g
    have i1 := text_b kk a g.2.2.1 (by omega) (k := k + b.size) (h := h)
    have i2 := text_b kk b g.2.2.2 (by omega) (k := k + a.size) (h := h)
    rw [show k + b.size + a.size + 1 = k + (a.size + b.size) + 1 by omega] at i1
    rw [show k + a.size + b.size + 1 = k + (a.size + b.size) + 1 by omega] at i2
    have hl := txt_len kk (s := .two l a b) g
    simp only [Sh.txt, List.length_append, Sh.size, List.length_cons, List.length_nil] at hl
    show ok (runDef 1 (b__law_text (lev D (k + (a.size + b.size) + 1))) [(Sh.two l a b).val] h) _
    rw [ok_run]
    refine if_ (c := false) (h := h) (by simp [dVar, mkT_ok, eq_nil o, Sh.isNil]) (fun z => by cases z) (fun _ => ?_)
    refine if_ (c := false) (h := h) (by simp [dVar, Sh.val]) (fun z => by cases z) (fun _ => ret_ ?_)
    simp [dVar, Sh.val, i1, i2, Sh.txt]
    rw [add_str (by simp; omega)]
    simp only [ok_ok]
    rw [i1]
    simp only [ok_ok]
    rw [add_str (by simp; omega)]
    simp only [ok_ok]
    rw [add_str (by simp; omega)]
    simp only [ok_ok]
    rw [i2]
    simp only [ok_ok]
    rw [add_str (by simp; omega)]
    simp only [ok_ok]
    rw [add_str (by simp; omega)]
    simp
end L02
set_option Elab.async false
set_option linter.all false
set_option maxRecDepth 100000
set_option maxHeartbeats 1000000
set_option autoImplicit false
namespace L02
open GH PySem
variable [TheWorld]
/-! write_shape -/
inductive It where
  | t (w : Tx) | s (x : Sh)
def It.val : It → Val
  | .t w => .str w
  | .s x => x.val
def rend : Sh → List Tx
  | .nil => [[46]]
  | .one l c => l :: rend c
  | .two l a b => l :: [40] :: (rend a ++ [44] :: (rend b ++ [[41]]))
def It.rend : It → List Tx
  | .t w => [w]
  | .s x => L02.rend x
def wt : Sh → Nat
  | .nil => 1
  | .one _ c => wt c + 1
  | .two _ a b => wt a + wt b + 4
def It.wt : It → Nat
  | .t _ => 1
  | .s x => L02.wt x
def wts (st : List It) : Nat := (st.map It.wt).sum
theorem wt_pos (x : It) : 0 < x.wt := by
  cases x with
  | t w => simp [It.wt]
  | s x => cases x <;> simp [It.wt, wt]
theorem wts_len (st : List It) : st.length ≤ wts st := by
  induction st with
  | nil => exact Nat.zero_le _
  | cons a st ih =>
    have := wt_pos a
    simp [wts] at ih ⊢; omega
theorem rend_wt : ∀ s : Sh, (rend s).length ≤ wt s
  | .nil => by simp [rend, wt]
  | .one l c => by have := rend_wt c; simp [rend, wt]; omega
  | .two l a b => by have := rend_wt a; have := rend_wt b; simp [rend, wt]; omega
theorem wt_size : ∀ s : Sh, wt s ≤ 5 * s.size + 1
  | .nil => by simp [wt, Sh.size]
  | .one l c => by have := wt_size c; simp [wt, Sh.size]; omega
  | .two l a b => by have := wt_size a; have := wt_size b; simp [wt, Sh.size]; omega
theorem rend_txt : ∀ s : Sh, (rend s).flatten = s.txt
  | .nil => rfl
  | .one l c => by simp [rend, Sh.txt, rend_txt c]
  | .two l a b => by simp [rend, Sh.txt, rend_txt a, rend_txt b]
theorem joinL_nil : ∀ L : List Tx, TL.joinL [] L = L.flatten
  | [] => rfl
  | [p] => by simp [TL.joinL]
  | p :: q :: r => by rw [TL.joinL, joinL_nil (q :: r)]; simp
noncomputable def wBody : Stm := (sSeq (sAsg (dMeth0 isLst vPop (dVar 2)) (gName 3))
    (sSeq (sIf (dTru (dIsi .str (dVar 3))) (sSeq (sExpr (dMeth1 isLst vAppend (dVar 1) (dVar 3)))
    sNext) (sSeq (sIf (dNot (dTru (dVar 3))) (sSeq (sExpr (dMeth1 isLst vAppend (dVar 1) (dC (.str [46]))))
    sNext) (sSeq (sIf (dB (dBin vEq (dLen (dVar 3)) (dC (.int 2)))) (sSeq (sExpr (dMeth1 isLst vAppend (dVar 1) (dBin vIx (dVar 3) (dC (.int 0)))))
    (sSeq (sExpr (dMeth1 isLst vAppend (dVar 2) (dBin vIx (dVar 3) (dC (.int 1)))))
    sNext)) (sSeq (sExpr (dMeth1 isLst vAppend (dVar 1) (dBin vIx (dVar 3) (dC (.int 0)))))
    (sSeq (sExpr (dMeth1 isLst (fun x v h => if (lstOf h v).isSome then vExtend x v h else .fail) (dVar 2) (dLst (dCons (dC (.str [41])) (dCons (dBin vIx (dVar 3) (dC (.int 2))) (dCons (dC (.str [44])) (dCons (dBin vIx (dVar 3) (dC (.int 1))) (dCons (dC (.str [40])) dNil))))))))
    sNext)))
    sNext))
    sNext))
    sNext))
theorem extend_ref {i : Nat} {l k : List Val} {h : Hv} (e : h[i]? = some (.lst l)) (hl : l.length + k.length ≤ 16777216) : vExtend (.ref i) (.lst k) h = .ok .non (h.set i (.lst (l ++ k))) := by
  simp [vExtend, e, seqOf, lstOf, lineN, hl]
theorem app1 {h : Hv} {l : GH.Loc} {i j : Nat} {L : List Val} {d : Den} {v : Val} (hi : l[i]? = some (some (.ref j))) (hj : h[j]? = some (.lst L)) (hd : d l h = .ok v h) (hl : L.length < 16777216) : dMeth1 isLst vAppend (dVar i) d l h = .ok .non (h.set j (.lst (L ++ [v]))) := by
  simp only [e_meth1, dVar, hi, Res.bind_ok, isLst_ref hj, if_true, hd, append_ref hj hl]
theorem wloop {h : Hv} {v0 : Val} {R : GH.Loc → Hv → Prop} : ∀ (n : Nat) (st : List It) (res : List Tx) (x : Option Val), wts st ≤ n → res.length + n ≤ 100000 →
    (∀ x, R [some v0, some (.ref h.length), some (.ref (h.length + 1)), x] (h ++ [.lst ((res ++ (st.reverse.flatMap It.rend)).map .str), .lst []])) →
    sok (sWhile (dTru (dVar 2)) wBody [some v0, some (.ref h.length), some (.ref (h.length + 1)), x] (h ++ [.lst (res.map .str), .lst (st.map It.val)])) { nx := R } := by
  intro n
  induction n with
  | zero =>
    intro st res x hm hr q
    cases st with
    | cons a st =>
      have := wt_pos a
      simp [wts] at hm; omega
    | nil =>
      rw [sWhile_eq]
      simp [dVar, tru_ref (g1 h _ _)]
      simpa using q x
  | succ n ih =>
    intro st res x hm hr q
    rcases List.eq_nil_or_concat st with rfl | ⟨st, a, rfl⟩
    · rw [sWhile_eq]
      simp [dVar, tru_ref (g1 h _ _)]
      simpa using q x
    · rw [List.concat_eq_append] at hm q ⊢
      rw [sWhile_eq]
      simp only [e_tru, dVar, List.getElem?_cons_succ, List.getElem?_cons_zero, Res.bind_ok, tru_ref (g1 h _ _), Res.to_ok]
      rw [if_pos (by simp)]
      rw [sok_turn]
      have hms : wts st + a.wt ≤ n + 1 := by simpa [wts] using hm
      have hs := wts_len st
      refine asg_ (h1 := h ++ [.lst (res.map .str), .lst (st.map It.val)]) (v := a.val) ?_ ?_
      · simp only [e_meth0, dVar, List.getElem?_cons_succ, List.getElem?_cons_zero, Res.bind_ok, isLst_ref (g1 h _ _), if_true]
        rw [pop_ref (l := st.map It.val) (v := a.val) (by rw [g1]; simp)]
        simp
      simp only [List.set_cons_succ, List.set_cons_zero]
      have g0' := g0 h (.lst (res.map .str)) (.lst (st.map It.val))
      have g1' := g1 h (.lst (res.map .str)) (.lst (st.map It.val))
      have lr : (res.map Val.str).length < 16777216 := by simp; omega
      have ls : (st.map It.val).length < 16777216 := by simp; omega
      cases a with
      | t w =>
        simp only [It.wt] at hms
        refine if2_ (show dTru (dIsi .str (dVar 3)) [some v0, some (.ref h.length), some (.ref (h.length + 1)), some (It.t w).val] (h ++ [.lst (res.map .str), .lst (st.map It.val)]) = .ok true (h ++ [.lst (res.map .str), .lst (st.map It.val)]) by simp [dVar, It.val, tyOf, isiB]) (fun _ => ?_) (fun z => by cases z)
        refine expr_ (app1 (j := h.length) (v := .str w) rfl g0' rfl lr) ?_
        simp only [s0, e_next, sok_nx]
        rw [show (res.map Val.str) ++ [.str w] = (res ++ [w]).map .str by simp]
        refine ih st (res ++ [w]) _ (by omega) (by simp; omega) fun x => ?_
        have := q x
        simpa [It.rend] using this
      | s sh =>
        refine if2_ (show dTru (dIsi .str (dVar 3)) [some v0, some (.ref h.length), some (.ref (h.length + 1)), some (It.s sh).val] (h ++ [.lst (res.map .str), .lst (st.map It.val)]) = .ok false (h ++ [.lst (res.map .str), .lst (st.map It.val)]) by cases sh <;> simp [dVar, It.val, Sh.val, tyOf, isiB]) (fun z => by cases z) (fun _ => ?_)
        cases sh with
        | nil =>
          simp only [It.wt, wt] at hms
          refine if2_ (show dNot (dTru (dVar 3)) [some v0, some (.ref h.length), some (.ref (h.length + 1)), some (It.s .nil).val] (h ++ [.lst (res.map .str), .lst (st.map It.val)]) = .ok true (h ++ [.lst (res.map .str), .lst (st.map It.val)]) by simp [dVar, It.val, Sh.val]) (fun _ => ?_) (fun z => by cases z)
          refine expr_ (app1 (j := h.length) (v := .str [46]) rfl g0' rfl lr) ?_
          simp only [s0, e_next, sok_nx]
          rw [show (res.map Val.str) ++ [.str [46]] = (res ++ [[46]]).map .str by simp]
          refine ih st (res ++ [[46]]) _ (by omega) (by simp; omega) fun x => ?_
          have := q x
          simpa [It.rend, rend] using this
        | one l c =>
          simp only [It.wt, wt] at hms
          refine if2_ (show dNot (dTru (dVar 3)) [some v0, some (.ref h.length), some (.ref (h.length + 1)), some (It.s (.one l c)).val] (h ++ [.lst (res.map .str), .lst (st.map It.val)]) = .ok false (h ++ [.lst (res.map .str), .lst (st.map It.val)]) by simp [dVar, It.val, Sh.val]) (fun z => by cases z) (fun _ => ?_)
          refine if2_ (show dB (dBin vEq (dLen (dVar 3)) (dC (.int 2))) [some v0, some (.ref h.length), some (.ref (h.length + 1)), some (It.s (.one l c)).val] (h ++ [.lst (res.map .str), .lst (st.map It.val)]) = .ok true (h ++ [.lst (res.map .str), .lst (st.map It.val)]) by simp [dVar, It.val, Sh.val]) (fun _ => ?_) (fun z => by cases z)
          refine expr_ (app1 (j := h.length) (v := .str l) rfl g0' (by simp [dVar, It.val, Sh.val]) lr) ?_
          rw [s0]
          refine expr_ (app1 (j := h.length + 1) (v := c.val) rfl (g1 h _ _) (by simp [dVar, It.val, Sh.val]) ls) ?_
          simp only [s1, e_next, sok_nx]
          rw [show (res.map Val.str) ++ [.str l] = (res ++ [l]).map .str by simp, show (st.map It.val) ++ [c.val] = (st ++ [It.s c]).map It.val by simp [It.val]]
          refine ih (st ++ [It.s c]) (res ++ [l]) _ (by simp [wts, It.wt] at hms ⊢; omega) (by simp; omega) fun x => ?_
          have := q x
          simpa [It.rend, rend] using this
        | two l a b =>
          simp only [It.wt, wt] at hms
          refine if2_ (show dNot (dTru (dVar 3)) [some v0, some (.ref h.length), some (.ref (h.length + 1)), some (It.s (.two l a b)).val] (h ++ [.lst (res.map .str), .lst (st.map It.val)]) = .ok false (h ++ [.lst (res.map .str), .lst (st.map It.val)]) by simp [dVar, It.val, Sh.val]) (fun z => by cases z) (fun _ => ?_)
          refine if2_ (show dB (dBin vEq (dLen (dVar 3)) (dC (.int 2))) [some v0, some (.ref h.length), some (.ref (h.length + 1)), some (It.s (.two l a b)).val] (h ++ [.lst (res.map .str), .lst (st.map It.val)]) = .ok false (h ++ [.lst (res.map .str), .lst (st.map It.val)]) by simp [dVar, It.val, Sh.val]) (fun z => by cases z) (fun _ => ?_)
          refine expr_ (app1 (j := h.length) (v := .str l) rfl g0' (by simp [dVar, It.val, Sh.val]) lr) ?_
          rw [s0]
          refine expr_ (h1 := h ++ [.lst (res.map .str ++ [.str l]), .lst (st.map It.val ++ [.str [41], b.val, .str [44], a.val, .str [40]])]) (v := .non) ?_ ?_
          · simp only [e_meth1, dVar, List.getElem?_cons_succ, List.getElem?_cons_zero, Res.bind_ok, isLst_ref (g1 h _ _), if_true, e_lst, e_cons, e_nil, e_c, e_bin, It.val, Sh.val, t1, t2]
            rw [mkL_ok (by simp)]
            simp only [Res.bind_ok, lstOf, Option.isSome_some, if_true]
            rw [extend_ref (g1 h _ _) (by simp; omega), s1]
          simp only [e_next, sok_nx]
          rw [show (res.map Val.str) ++ [.str l] = (res ++ [l]).map .str by simp, show (st.map It.val) ++ [.str [41], b.val, .str [44], a.val, .str [40]] = (st ++ [It.t [41], It.s b, It.t [44], It.s a, It.t [40]]).map It.val by simp [It.val]]
          refine ih (st ++ [It.t [41], It.s b, It.t [44], It.s a, It.t [40]]) (res ++ [l]) _ (by simp [wts, It.wt] at hms ⊢; omega) (by simp; omega) fun x => ?_
          have := q x
          simpa [It.rend, rend] using this
theorem okS_app (a b : Tx) : okV (.str (a ++ b)) = (okV (.str a) && okV (.str b)) := by
  simp only [okV, List.all_append]
theorem txt_ok {n : Int} {ls : List Tx} (kk : KOk n ls) : ∀ {s : Sh}, s.ok n ls → okV (.str s.txt) = true
  | .nil, _ => by decide +kernel
  | .one l c, g => by
    simp only [Sh.txt, okS_app, kk.tx l g.2.1, txt_ok kk g.2.2, Bool.and_self]
  | .two l a b, g => by
    have p1 : okV (.str [40]) = true := by decide +kernel
    have p2 : okV (.str [44]) = true := by decide +kernel
    have p3 : okV (.str [41]) = true := by decide +kernel
    simp only [Sh.txt, okS_app, kk.tx l g.2.1, txt_ok kk g.2.2.1, txt_ok kk g.2.2.2, p1, p2, p3, Bool.and_self]
theorem write_a {n : Int} {ls : List Tx} (kk : KOk n ls) {s : Sh} (g : s.ok n ls) (hs : s.size ≤ 1000) {k : Nat} {h : Hv} : lev D (k + 1) 1 [s.val] h = .ok (.str s.txt) h := by
  refine eq_of ?_
  show ok (tidy (runDef 4 (b_write_shape (lev D k)) [s.val] h) h) _
  refine tidy_app ?_
  rw [ok_run]
  have hw := wt_size s
  refine asg_ (h1 := h ++ [.lst []]) (v := .ref h.length) (by simp [mkRef, lineN]) ?_
  refine asg_ (h1 := h ++ [.lst [], .lst [s.val]]) (v := .ref (h.length + 1)) (by simp [mkRef, lineN, dVar]) ?_
  refine sok_seqo (fun l h' => (∃ x, l = [some s.val, some (.ref h.length), some (.ref (h.length + 1)), x]) ∧ h' = h ++ [.lst ((rend s).map .str), .lst []]) (fun R' hR => ?_) ?_
  · exact sok_imp (wloop (h := h) (v0 := s.val) (R := R') (wt s) [.s s] [] none (by simp [wts, It.wt]) (by simp; omega) fun x => hR _ _ ⟨⟨x, rfl⟩, by simp [It.rend]⟩) (fun _ _ z => z) (fun _ _ z => z.elim) (fun _ _ z => z.elim) (fun _ _ z => z.elim)
  · rintro l h' ⟨⟨x, rfl⟩, rfl⟩
    refine ret_ ?_
    have hl := txt_len kk g
    have hr := rend_wt s
    have e : ((rend s).map List.length).sum = s.txt.length := by
      rw [← rend_txt s, List.length_flatten]
    have hj : vJoin (.str []) (.ref h.length) (h ++ [.lst ((rend s).map .str), .lst []]) = .ok (.str s.txt) (h ++ [.lst ((rend s).map .str), .lst []]) := by
      simp only [vJoin, seqOf, lstOf, g0, strsOf_map, e, List.length_nil, Nat.mul_zero, Nat.add_zero]
      rw [if_pos (by omega), joinL_nil, rend_txt]
    simp only [e_meth1, e_c, Res.bind_ok, isStr, if_true, dVar, List.getElem?_cons_succ, List.getElem?_cons_zero, hj, ok_ok]
    refine ⟨⟨_, rfl⟩, txt_ok kk g, ?_⟩
    simp
end L02
set_option Elab.async false
set_option linter.all false
set_option maxRecDepth 100000
set_option maxHeartbeats 1000000
set_option autoImplicit false
namespace L02
open GH PySem
variable [TheWorld]
/-! how many shapes there are -/
theorem gdl {α : Type} {a b : List α} {d : α} {n : Nat} (h : n < a.length) : (a ++ b).getD n d = a.getD n d := by
  rw [List.getD_eq_getElem?_getD, List.getD_eq_getElem?_getD, List.getElem?_append_left h]
theorem gdr {α : Type} {a b : List α} {d : α} {n : Nat} (h : a.length ≤ n) : (a ++ b).getD n d = b.getD (n - a.length) d := by
  rw [List.getD_eq_getElem?_getD, List.getD_eq_getElem?_getD, List.getElem?_append_right h]
def stp (w k : Nat) (cs : List Nat) : Nat := if w = 1 then k * cs.getD (cs.length - 1) 0 else k * ((List.range cs.length).map fun j => cs.getD j 0 * cs.getD (cs.length - 1 - j) 0).sum
def cl (w k : Nat) : Nat → List Nat
  | 0 => [1]
  | t + 1 => cl w k t ++ [stp w k (cl w k t)]
theorem cl_len (w k : Nat) : ∀ t, (cl w k t).length = t + 1
  | 0 => rfl
  | t + 1 => by rw [cl, List.length_append, cl_len w k t]; rfl
theorem cl_pre (w k : Nat) {t : Nat} : ∀ {u : Nat} {j : Nat}, t ≤ u → j ≤ t → (cl w k u).getD j 0 = (cl w k t).getD j 0
  | 0, j, h, hj => by rw [show t = 0 by omega]
  | u + 1, j, h, hj => by
    by_cases c : t = u + 1
    · rw [c]
    · rw [cl, gdl (by rw [cl_len]; omega)]
      exact cl_pre w k (by omega) hj
def num (w k t : Nat) : Nat := (cl w k t).getD t 0
theorem cl_num (w k : Nat) {t j : Nat} (h : j ≤ t) : (cl w k t).getD j 0 = num w k j := cl_pre w k h (Nat.le_refl j)
theorem num_one (k t : Nat) : num 1 k (t + 1) = k * num 1 k t := by
  unfold num
  rw [cl, gdr (by rw [cl_len]; omega), cl_len, Nat.sub_self]
  show stp 1 k (cl 1 k t) = _
  unfold stp
  rw [if_pos rfl, cl_len, Nat.add_sub_cancel]
theorem num_two (k t : Nat) : num 2 k (t + 1) = k * ((List.range (t + 1)).map fun j => num 2 k j * num 2 k (t - j)).sum := by
  have e : num 2 k (t + 1) = stp 2 k (cl 2 k t) := by
    unfold num
    rw [cl, gdr (by rw [cl_len]; omega), cl_len, Nat.sub_self]
    rfl
  rw [e]
  unfold stp
  rw [if_neg (by decide), cl_len]
  congr 2
  refine List.map_congr_left fun j hj => ?_
  have := List.mem_range.mp hj
  rw [cl_num 2 k (by omega), Nat.add_sub_cancel, cl_num 2 k (by omega)]
theorem num_small {k j : Nat} (hk : k = 1 ∨ k = 2 ∨ k = 3) (hj : j ≤ 14) : num 2 k j < 18446744073709551616 := by
  rw [← cl_num 2 k hj]
  have all : ∀ k, k = 1 ∨ k = 2 ∨ k = 3 → ((cl 2 k 14).all fun x => decide (x < 18446744073709551616)) = true := by
    rintro k (rfl | rfl | rfl) <;> decide +kernel
  have := all k hk
  rw [List.all_eq_true] at this
  have hl : j < (cl 2 k 14).length := by rw [cl_len]; omega
  have := this _ (List.getElem_mem hl)
  rw [List.getD_eq_getElem?_getD, List.getElem?_eq_getElem hl]
  exact of_decide_eq_true this
theorem num_pos {w k : Nat} (hw : w = 1 ∨ w = 2) (hk : 0 < k) : ∀ t, 0 < num w k t
  | 0 => Nat.one_pos
  | t + 1 => by
    rcases hw with rfl | rfl
    · rw [num_one]; exact Nat.mul_pos hk (num_pos (.inl rfl) hk t)
    · rw [num_two]
      refine Nat.mul_pos hk ?_
      rw [List.range_succ_eq_map, List.map_cons, List.sum_cons]
      have := Nat.mul_pos (num_pos (w := 2) (.inr rfl) hk 0) (num_pos (w := 2) (.inr rfl) hk t)
      rw [Nat.sub_zero]
      omega
theorem num_mono {w k : Nat} (hw : w = 1 ∨ w = 2) (hk : 0 < k) (t : Nat) : num w k t ≤ num w k (t + 1) := by
  rcases hw with rfl | rfl
  · rw [num_one]; exact Nat.le_mul_of_pos_left _ hk
  · rw [num_two, List.range_succ_eq_map, List.map_cons, List.sum_cons]
    have h0 : num 2 k 0 = 1 := rfl
    rw [Nat.sub_zero, h0, Nat.one_mul]
    refine Nat.le_trans (Nat.le_add_right _ _) (Nat.le_mul_of_pos_left _ hk)
theorem num_le {w k : Nat} (hw : w = 1 ∨ w = 2) (hk : 0 < k) {t : Nat} : ∀ {u : Nat}, t ≤ u → num w k t ≤ num w k u
  | 0, h => by rw [show t = 0 by omega]; exact Nat.le_refl _
  | u + 1, h => by
    by_cases c : t = u + 1
    · rw [c]; exact Nat.le_refl _
    · exact Nat.le_trans (num_le hw hk (by omega)) (num_mono hw hk u)
abbrev iN (x : Nat) : Val := .int x
theorem KOk.len {n : Int} {ls : List Tx} (q : KOk n ls) : ls.length = 1 ∨ ls.length = 2 ∨ ls.length = 3 := by
  rcases q.l with rfl | rfl | rfl <;> simp
theorem big_nat {a : Nat} (h : a < 18446744073709551616) : big64 (a : Int) = true := big_of (by omega) (by omega)
/-- an item of the numbers -/
theorem ix_num {w k t j : Nat} {h : Hv} {i : Nat} (hv : h[i]? = some (.lst ((cl w k t).map iN))) (hj : j ≤ t) : vIx (.ref i) (.int (j : Nat)) h = .ok (.int (num w k j : Nat)) h := by
  have hl : j < (cl w k t).length := by rw [cl_len]; omega
  have e : (cl w k t)[j]? = some (num w k j) := by
    rw [List.getElem?_eq_getElem hl, ← cl_num w k hj, List.getD_eq_getElem?_getD, List.getElem?_eq_getElem hl]
    rfl
  have : nth ((cl w k t).map iN) (j : Int) = some (.int (num w k j : Nat)) := nth_nat (by rw [List.getElem?_map, e]; rfl)
  simp [vIx, seqOf, lstOf, hv, this]
theorem ix_last {w k t : Nat} {h : Hv} {i : Nat} (hv : h[i]? = some (.lst ((cl w k t).map iN))) : vIx (.ref i) (.int (-1)) h = .ok (.int (num w k t : Nat)) h := by
  have hl : t < (cl w k t).length := by rw [cl_len]; omega
  have e : (cl w k t)[t]? = some (num w k t) := by
    rw [List.getElem?_eq_getElem hl, ← cl_num w k (Nat.le_refl t), List.getD_eq_getElem?_getD, List.getElem?_eq_getElem hl]
    rfl
  have : nth ((cl w k t).map iN) (-1) = some (.int (num w k t : Nat)) := by
    unfold nth
    rw [if_neg (by decide), if_pos (by rw [List.length_map, cl_len]; omega), List.length_map, cl_len, show ((-1 : Int) + ((t + 1 : Nat) : Int)).toNat = t by omega, List.getElem?_map, e]
    rfl
  simp [vIx, seqOf, lstOf, hv, this]
/-- the products of two numbers -/
theorem prods {k t i ti pi : Nat} {l : GH.Loc} {h : Hv} {j : Nat} (hk : k = 1 ∨ k = 2 ∨ k = 3) (ht : t ≤ 29) (hr : h[i]? = some (.lst ((cl 2 k t).map iN))) (er : l[pi]? = some (some (.ref i))) (et : l[ti]? = some (some (.int ((t : Int) + 1)))) (n1 : pi ≠ j) (n2 : ti ≠ j) (hj : j < l.length) :
    dFn vSum (dLc frozen [j] (iRange1 (dVar ti)) (gName j) dYes (dBin vMul (dBin vIx (dVar pi) (dVar j)) (dBin vIx (dVar pi) (dBin vSub (dBin vSub (dVar ti) (dC (.int 1))) (dVar j))))) l h = .ok (.int (((List.range (t + 1)).map fun j => num 2 k j * num 2 k (t - j)).sum : Nat)) h := by
  have e1 : dLc frozen [j] (iRange1 (dVar ti)) (gName j) dYes (dBin vMul (dBin vIx (dVar pi) (dVar j)) (dBin vIx (dVar pi) (dBin vSub (dBin vSub (dVar ti) (dC (.int 1))) (dVar j)))) l h = .ok (.lst ((List.range (t + 1)).map fun a => .int ((num 2 k a * num 2 k (t - a) : Nat) : Int))) h := by
    refine dlc_eq (fun a : Nat => Val.int a) _ (List.range (t + 1)) ?_ fun a ha => ?_
    · rw [e_rng1, dv et, Res.bind_ok, show (t : Int) + 1 = ((t + 1 : Nat) : Int) by omega]
      exact rng1_eq (by omega)
    · have ha := List.mem_range.mp ha
      refine ⟨(wipeL l [j]).set j (some (.int (a : Nat))), rfl, ?_⟩
      have w : wipeL l [j] = l.set j none := rfl
      rw [w]
      have g1 : ((l.set j none).set j (some (.int (a : Nat))))[pi]? = some (some (.ref i)) := by
        rw [List.getElem?_set_ne (Ne.symm n1), List.getElem?_set_ne (Ne.symm n1)]; exact er
      have g2 : ((l.set j none).set j (some (.int (a : Nat))))[ti]? = some (some (.int ((t : Int) + 1))) := by
        rw [List.getElem?_set_ne (Ne.symm n2), List.getElem?_set_ne (Ne.symm n2)]; exact et
      have g3 : ((l.set j none).set j (some (.int (a : Nat))))[j]? = some (some (.int (a : Nat))) := by
        rw [List.getElem?_set_self (by simpa using hj)]
      rw [e_bin, e_bin, dv g1, Res.bind_ok, dv g3, Res.bind_ok, ix_num hr (by omega), Res.bind_ok, e_bin, dv g1, Res.bind_ok, e_bin, e_bin, dv g2, Res.bind_ok, e_c, Res.bind_ok, vSub_int, Res.bind_ok, dv g3, Res.bind_ok, vSub_int, Res.bind_ok, show (t : Int) + 1 - 1 - (a : Nat) = ((t - a : Nat) : Int) by omega, ix_num hr (by omega), Res.bind_ok]
      have bg : big64 ((num 2 k a : Nat) : Int) = true ∨ big64 ((num 2 k (t - a) : Nat) : Int) = true := by
        by_cases c : a ≤ 14
        · exact .inl (big_nat (num_small hk c))
        · exact .inr (big_nat (num_small hk (by omega)))
      rw [vMul_ok h bg]
      simp
  rw [e_fn]
  refine (congrArg (fun r : Res Val => r.bind vSum) e1).trans ?_
  rw [Res.bind_ok, show ((List.range (t + 1)).map fun a => Val.int ((num 2 k a * num 2 k (t - a) : Nat) : Int)) = (((List.range (t + 1)).map fun a => ((num 2 k a * num 2 k (t - a) : Nat) : Int))).map .int by rw [List.map_map]; rfl, sum_ints]
  congr 2
  generalize List.range (t + 1) = R
  induction R with
  | nil => rfl
  | cons x R ih => rw [List.map_cons, List.map_cons, List.sum_cons, List.sum_cons, ih]; omega
theorem sum_set {w k t : Nat} (h : Hv) : (h ++ [Ob.lst ((cl w k t).map iN)]).set (h.length + 0) (.lst ((cl w k t).map iN ++ [iN (num w k (t + 1))])) = h ++ [.lst ((cl w k (t + 1)).map iN)] := by
  rw [set_at, List.set_cons_zero, cl, List.map_append]
  congr 4
  unfold num
  rw [cl, gdr (by rw [cl_len]; omega), cl_len, Nat.sub_self]
  rfl
end L02
set_option Elab.async false
set_option linter.all false
set_option maxRecDepth 100000
set_option maxHeartbeats 1000000
set_option autoImplicit false
namespace L02
open GH PySem
variable [TheWorld]
/-! shape_counts, _law_number -/
theorem KOk.one3 {n : Int} {ls : List Tx} (q : KOk n ls) : ls.length = 1 ∨ ls.length = 2 ∨ ls.length = 3 := q.len
/-- the kind's number of ways, as a natural number -/
theorem KOk.ways {n : Int} {ls : List Tx} (q : KOk n ls) : ∃ w : Nat, (w = 1 ∨ w = 2) ∧ n = (w : Nat) := by
  rcases q.n with rfl | rfl
  · exact ⟨1, .inl rfl, rfl⟩
  · exact ⟨2, .inr rfl, rfl⟩
theorem len_mul {k x : Nat} (hk : k ≤ 3) (h : Hv) : vMul (.int (k : Nat)) (.int (x : Nat)) h = .ok (.int ((k * x : Nat) : Int)) h := by
  rw [vMul_ok h (.inl (big_nat (by omega)))]
  simp
noncomputable abbrev scB : Stm := (sSeq (sIf (dB (dBin vEq (dVar 4) (dC (.int 1)))) (sSeq (sExpr (dMeth1 isLst vAppend (dVar 2) (dBin vMul (dLen (dVar 5)) (dBin vIx (dVar 2) (dNeg (dC (.int 1)))))))
    sNext) (sSeq (sAsg (dFn vSum (dLc frozen [7] (iRange1 (dVar 3)) (gName 7) dYes (dBin vMul (dBin vIx (dVar 2) (dVar 7)) (dBin vIx (dVar 2) (dBin vSub (dBin vSub (dVar 3) (dC (.int 1))) (dVar 7)))))) (gName 6))
    (sSeq (sExpr (dMeth1 isLst vAppend (dVar 2) (dBin vMul (dLen (dVar 5)) (dVar 6))))
    sNext)))
    sNext)
theorem range_one (T : Nat) (hT : T ≤ 30) (h : Hv) : vRange2 (.int 1) (.int ((T : Int) + 1)) h = .ok ((List.range T).map fun i : Nat => Val.int ((i : Int) + 1), none) h := by
  rw [vRange2_ok (by omega) (by omega) (by omega) (by omega) (by omega)]
  congr 2
  simp only [rangeL]
  rw [show ((T : Int) + 1 - 1).toNat = T by omega]
  exact List.map_congr_left fun i _ => by rw [Int.add_comm]
theorem iff_t {tt : DenG Bool} {a b rest : Stm} {l : GH.Loc} {h : Hv} (e : tt l h = .ok true h) : sSeq (sIf tt a b) rest l h = (a l h).andThen rest := by
  rw [e_seq, e_if, e]
  rfl
theorem iff_f {tt : DenG Bool} {a b rest : Stm} {l : GH.Loc} {h : Hv} (e : tt l h = .ok false h) : sSeq (sIf tt a b) rest l h = (b l h).andThen rest := by
  rw [e_seq, e_if, e]
  rfl
theorem sc_of {k : Nat} {a b : Val} {h : Hv} {l : List Val} (q : runDef 8 (b_shape_counts (lev D k)) [a, b] h = .ok (.ref (h.length + 0)) (h ++ [.lst l])) (o : okVs l = true) : lev D (k + 1) 2 [a, b] h = .ok (.lst l) h := by
  refine eq_of ?_
  show ok (tidy (runDef 8 (b_shape_counts (lev D k)) [a, b] h) h) _
  rw [q]
  refine tidy_lst ?_
  exact ⟨_, h.length + 0, _, rfl, rfl, by omega, by rw [get_at]; rfl, o, rfl, rfl⟩
theorem set_to {d : Den} {i : Nat} {rest : Stm} {l l1 : GH.Loc} {h h1 : Hv} {v : Val} (e : d l h = .ok v h1) (el : l.set i (some v) = l1) : sSeq (sAsg d (gName i)) rest l h = rest l1 h1 := by
  rw [set_eq e, el]
theorem sc_eq {n : Int} {ls : List Tx} (kk : KOk n ls) {w : Nat} (hw : w = 1 ∨ w = 2) (en : n = (w : Nat)) {T : Nat} (hT : T ≤ 30) {k : Nat} {h : Hv} : lev D (k + 1) 2 [kv n ls, .int (T : Nat)] h = .ok (.lst ((cl w ls.length T).map iN)) h := by
  have kl := kk.len
  have okl : okV (.lst ((cl w ls.length T).map iN)) = true := okVs_nats _
  suffices q : b_shape_counts (lev D k) [some (kv n ls), some (.int (T : Nat)), none, none, none, none, none, none] h = .rt (.ref (h.length + 0)) (h ++ [.lst ((cl w ls.length T).map iN)]) by
    exact sc_of (GH.run_rt q) okl
  unfold b_shape_counts
  rw [asg2_eq (v := kv n ls) (h1 := h) (dv rfl) (show gTup 2 _ (kv n ls) _ h = .ok [some (kv n ls), some (.int (T : Nat)), none, none, some (.int n), some (.tup (ls.map .str)), none, none] h from rfl)]
  rw [set_to (v := .ref (h.length + 0)) (h1 := h ++ [.lst [.int 1]]) (l1 := [some (kv n ls), some (.int (T : Nat)), some (.ref (h.length + 0)), none, some (.int n), some (.tup (ls.map .str)), none, none]) (by rw [e_lstM, e_cons, e_c, Res.bind_ok, e_nil, Res.bind_ok, Res.bind_ok, mkR_ok (by simp)]; rfl) rfl]
  rw [for_eq (it := (List.range T).map fun i : Nat => Val.int ((i : Int) + 1)) (h1 := h ++ [.lst [.int 1]]) (by
    rw [e_rng2, e_c, Res.bind_ok, e_bin, dv rfl, Res.bind_ok, e_c, Res.bind_ok, vAdd_int, Res.bind_ok]
    exact range_one T hT _)]
  obtain ⟨l', h', e, ⟨x, y, z, rfl⟩, rfl⟩ := for_ind (t := gName 3) (b := scB) (it := (List.range T).map fun i : Nat => Val.int ((i : Int) + 1)) (fun i : Nat => Val.int ((i : Int) + 1))
    (fun pre l h' => (∃ x y z, l = [some (kv n ls), some (.int (T : Nat)), some (.ref (h.length + 0)), x, some (.int n), some (.tup (ls.map .str)), y, z]) ∧ h' = h ++ [.lst ((cl w ls.length pre.length).map iN)])
    (List.range T) [] [some (kv n ls), some (.int (T : Nat)), some (.ref (h.length + 0)), none, some (.int n), some (.tup (ls.map .str)), none, none] (h ++ [.lst [.int 1]]) ⟨⟨_, _, _, rfl⟩, rfl⟩ (by
      rintro pre t q l h0 e ⟨⟨x, y, z, rfl⟩, rfl⟩
      have e : List.range T = pre ++ t :: q := e
      have et : t = pre.length := by
        have h1 := congrArg (fun L => L[pre.length]?) e
        simp only [List.getElem?_append_right (Nat.le_refl _), Nat.sub_self, List.getElem?_cons_zero] at h1
        have lt : pre.length < T := by
          have := congrArg List.length e
          simp at this
          omega
        rw [List.getElem?_range lt] at h1
        exact (Option.some.inj h1).symm
      have lt : t < T := by
        have : t ∈ List.range T := by rw [e]; simp
        exact List.mem_range.mp this
      subst et
      have hr : (h ++ [Ob.lst ((cl w ls.length pre.length).map iN)])[h.length + 0]? = some (.lst ((cl w ls.length pre.length).map iN)) := by rw [get_at]; rfl
      have ll : ((cl w ls.length pre.length).map iN).length < 16777216 := by rw [List.length_map, cl_len]; omega
      have len5 : ∀ y z x : Option Val, dLen (dVar 5) [some (kv n ls), some (.int (T : Nat)), some (.ref (h.length + 0)), x, some (.int n), some (.tup (ls.map .str)), y, z] (h ++ [.lst ((cl w ls.length pre.length).map iN)]) = .ok (.int (ls.length : Nat)) (h ++ [.lst ((cl w ls.length pre.length).map iN)]) := fun y z x => by
        rw [e_len, dv rfl, Res.bind_ok, vLen_tup, List.length_map]
      have e1 : dB (dBin vEq (dVar 4) (dC (.int 1))) [some (kv n ls), some (.int (T : Nat)), some (.ref (h.length + 0)), some (.int ((pre.length : Int) + 1)), some (.int n), some (.tup (ls.map .str)), y, z] (h ++ [.lst ((cl w ls.length pre.length).map iN)]) = .ok (decide (w = 1)) (h ++ [.lst ((cl w ls.length pre.length).map iN)]) := by
        rw [e_b, e_bin, dv rfl, Res.bind_ok, e_c, Res.bind_ok, vEq_int, resB_bl]
        congr 1
        exact decide_eq_decide.mpr (by omega)
      have fin := sum_set (w := w) (k := ls.length) (t := pre.length) h
      rcases hw with rfl | rfl
      · refine ⟨_, _, [some (kv n ls), some (.int (T : Nat)), some (.ref (h.length + 0)), some (.int ((pre.length : Int) + 1)), some (.int n), some (.tup (ls.map .str)), y, z], _, rfl, ?_, ⟨_, _, _, rfl⟩, rfl⟩
        unfold scB
        refine (iff_t e1).trans ?_
        rw [GH.expr_eq (GH.app_at (j := h.length + 0) (v := iN (num 1 ls.length (pre.length + 1))) rfl hr (by
          rw [e_bin, len5, Res.bind_ok, e_bin, dv rfl, Res.bind_ok, show dNeg (dC (.int 1)) [some (kv n ls), some (.int (T : Nat)), some (.ref (h.length + 0)), some (.int ((pre.length : Int) + 1)), some (.int n), some (.tup (ls.map .str)), y, z] (h ++ [.lst ((cl 1 ls.length pre.length).map iN)]) = .ok (.int (-1)) (h ++ [.lst ((cl 1 ls.length pre.length).map iN)]) from rfl, Res.bind_ok, ix_last hr, Res.bind_ok, len_mul (by omega), ← num_one]) ll), fin, e_next]
        simp
      · refine ⟨_, _, [some (kv n ls), some (.int (T : Nat)), some (.ref (h.length + 0)), some (.int ((pre.length : Int) + 1)), some (.int n), some (.tup (ls.map .str)), some (.int (((List.range (pre.length + 1)).map fun j => num 2 ls.length j * num 2 ls.length (pre.length - j)).sum : Nat)), z], _, rfl, ?_, ⟨_, _, _, rfl⟩, rfl⟩
        unfold scB
        refine (iff_f e1).trans ?_
        have p := prods (l := [some (kv n ls), some (.int (T : Nat)), some (.ref (h.length + 0)), some (.int ((pre.length : Int) + 1)), some (.int n), some (.tup (ls.map .str)), y, z]) (h := h ++ [.lst ((cl 2 ls.length pre.length).map iN)]) (t := pre.length) (i := h.length + 0) (pi := 2) (ti := 3) (j := 7) kl (by omega) hr rfl rfl (by decide) (by decide) (by simp)
        have p2 := fun rest => set_to (i := 6) (rest := rest) (l1 := [some (kv n ls), some (.int (T : Nat)), some (.ref (h.length + 0)), some (.int ((pre.length : Int) + 1)), some (.int n), some (.tup (ls.map .str)), some (.int (((List.range (pre.length + 1)).map fun j => num 2 ls.length j * num 2 ls.length (pre.length - j)).sum : Nat)), z]) p rfl
        rw [p2]
        rw [GH.expr_eq (GH.app_at (j := h.length + 0) (v := iN (num 2 ls.length (pre.length + 1))) rfl hr (by
          rw [e_bin]
          refine (congrArg (fun r : Res Val => r.bind _) (len5 _ _ _)).trans ?_
          rw [Res.bind_ok, dv rfl, Res.bind_ok, len_mul (by omega), ← num_two]) ll), fin, e_next]
        simp)
  refine (congrArg (fun z : SRes => z.andThen _) e).trans ?_
  rw [SRes.andThen_nx, List.nil_append, List.length_range]
  exact ret_eq (dv rfl)
end L02
set_option Elab.async false
set_option linter.all false
set_option maxRecDepth 100000
set_option maxHeartbeats 1000000
set_option autoImplicit false
namespace L02
open GH PySem
variable [TheWorld]
theorem kv0 {n : Int} {ls : List Tx} {h : Hv} : vIx (kv n ls) (.int 0) h = .ok (.int n) h := t0 ..
theorem kv1 {n : Int} {ls : List Tx} {h : Hv} : vIx (kv n ls) (.int 1) h = .ok (.tup (ls.map .str)) h := t1 ..
theorem range_at {T : Nat} {pre q : List Nat} {t : Nat} (e : List.range T = pre ++ t :: q) : t = pre.length ∧ t < T := by
  have lt : pre.length < T := by
    have := congrArg List.length e
    simp at this
    omega
  have h1 := congrArg (fun L => L[pre.length]?) e
  simp only [List.getElem?_append_right (Nat.le_refl _), Nat.sub_self, List.getElem?_cons_zero] at h1
  rw [List.getElem?_range lt] at h1
  have := (Option.some.inj h1).symm
  exact ⟨this, by omega⟩
noncomputable abbrev lnB : Stm := (sSeq (sAsg (dIf (dB (dBin vEq (dBin vIx (dVar 0) (dC (.int 0))) (dC (.int 1)))) (dBin vIx (dVar 2) (dNeg (dC (.int 1)))) (dFn vSum (dLc frozen [5] (iRange1 (dVar 3)) (gName 5) dYes (dBin vMul (dBin vIx (dVar 2) (dVar 5)) (dBin vIx (dVar 2) (dBin vSub (dBin vSub (dVar 3) (dC (.int 1))) (dVar 5))))))) (gName 4))
    (sSeq (sExpr (dMeth1 isLst vAppend (dVar 2) (dBin vMul (dLen (dBin vIx (dVar 0) (dC (.int 1)))) (dVar 4))))
    sNext))
theorem ln_of {k : Nat} {a b : Val} {h g : Hv} {v : Val} (q : runDef 6 (b__law_number (lev D k)) [a, b] h = .ok v (h ++ g)) (o : okV v = true) : lev D (k + 1) 12 [a, b] h = .ok v h := tidy_okE (r := runDef 6 (b__law_number (lev D k)) [a, b] h) q o
theorem dif_t {t : DenG Bool} {a b : Den} {l : GH.Loc} {h : Hv} (e : t l h = .ok true h) : dIf t a b l h = a l h := by rw [e_dif, e]; rfl
theorem dif_f {t : DenG Bool} {a b : Den} {l : GH.Loc} {h : Hv} (e : t l h = .ok false h) : dIf t a b l h = b l h := by rw [e_dif, e]; rfl
theorem neg_one {l : GH.Loc} {h : Hv} : dNeg (dC (.int 1)) l h = .ok (.int (-1)) h := rfl
theorem ln_eq {n : Int} {ls : List Tx} (kk : KOk n ls) {w : Nat} (hw : w = 1 ∨ w = 2) (en : n = (w : Nat)) {T : Nat} (hT : T ≤ 30) {k : Nat} {h : Hv} : lev D (k + 1) 12 [kv n ls, .int (T : Nat)] h = .ok (.int (num w ls.length T : Nat)) h := by
  have kl := kk.len
  suffices q : b__law_number (lev D k) [some (kv n ls), some (.int (T : Nat)), none, none, none, none] h = .rt (.int (num w ls.length T : Nat)) (h ++ [.lst ((cl w ls.length T).map iN)]) by
    exact ln_of (GH.run_rt q) rfl
  unfold b__law_number
  rw [set_to (v := .ref (h.length + 0)) (h1 := h ++ [.lst [.int 1]]) (l1 := [some (kv n ls), some (.int (T : Nat)), some (.ref (h.length + 0)), none, none, none]) (by rw [e_lstM, e_cons, e_c, Res.bind_ok, e_nil, Res.bind_ok, Res.bind_ok, mkR_ok (by simp)]; rfl) rfl]
  rw [for_eq (it := (List.range T).map fun i : Nat => Val.int ((i : Int) + 1)) (h1 := h ++ [.lst [.int 1]]) (by
    rw [e_rng2, e_c, Res.bind_ok, e_bin, dv rfl, Res.bind_ok, e_c, Res.bind_ok, vAdd_int, Res.bind_ok]
    exact range_one T hT _)]
  obtain ⟨l', h', e, ⟨x, y, z, rfl⟩, rfl⟩ := for_ind (t := gName 3) (b := lnB) (it := (List.range T).map fun i : Nat => Val.int ((i : Int) + 1)) (fun i : Nat => Val.int ((i : Int) + 1))
    (fun pre l h' => (∃ x y z, l = [some (kv n ls), some (.int (T : Nat)), some (.ref (h.length + 0)), x, y, z]) ∧ h' = h ++ [.lst ((cl w ls.length pre.length).map iN)])
    (List.range T) [] [some (kv n ls), some (.int (T : Nat)), some (.ref (h.length + 0)), none, none, none] (h ++ [.lst [.int 1]]) ⟨⟨_, _, _, rfl⟩, rfl⟩ (by
      rintro pre t q l h0 e ⟨⟨x, y, z, rfl⟩, rfl⟩
      obtain ⟨et, lt⟩ := range_at (show List.range T = pre ++ t :: q from e)
      subst et
      have hr : (h ++ [Ob.lst ((cl w ls.length pre.length).map iN)])[h.length + 0]? = some (.lst ((cl w ls.length pre.length).map iN)) := by rw [get_at]; rfl
      have ll : ((cl w ls.length pre.length).map iN).length < 16777216 := by rw [List.length_map, cl_len]; omega
      have fin := sum_set (w := w) (k := ls.length) (t := pre.length) h
      obtain ⟨m, hm, em⟩ : ∃ m, ls.length * m = num w ls.length (pre.length + 1) ∧ dIf (dB (dBin vEq (dBin vIx (dVar 0) (dC (.int 0))) (dC (.int 1)))) (dBin vIx (dVar 2) (dNeg (dC (.int 1)))) (dFn vSum (dLc frozen [5] (iRange1 (dVar 3)) (gName 5) dYes (dBin vMul (dBin vIx (dVar 2) (dVar 5)) (dBin vIx (dVar 2) (dBin vSub (dBin vSub (dVar 3) (dC (.int 1))) (dVar 5)))))) [some (kv n ls), some (.int (T : Nat)), some (.ref (h.length + 0)), some (.int ((pre.length : Int) + 1)), y, z] (h ++ [.lst ((cl w ls.length pre.length).map iN)]) = .ok (.int (m : Nat)) (h ++ [.lst ((cl w ls.length pre.length).map iN)]) := by
        have e1 : dB (dBin vEq (dBin vIx (dVar 0) (dC (.int 0))) (dC (.int 1))) [some (kv n ls), some (.int (T : Nat)), some (.ref (h.length + 0)), some (.int ((pre.length : Int) + 1)), y, z] (h ++ [.lst ((cl w ls.length pre.length).map iN)]) = .ok (decide (w = 1)) (h ++ [.lst ((cl w ls.length pre.length).map iN)]) := by
          rw [e_b, e_bin, e_bin, dv rfl, Res.bind_ok, e_c, Res.bind_ok, kv0, Res.bind_ok, e_c, Res.bind_ok, vEq_int, resB_bl]
          congr 1
          exact decide_eq_decide.mpr (by omega)
        rcases hw with rfl | rfl
        · refine ⟨num 1 ls.length pre.length, (num_one _ _).symm, ?_⟩
          refine (dif_t e1).trans ?_
          rw [e_bin, dv rfl, Res.bind_ok, neg_one, Res.bind_ok]
          exact ix_last hr
        · refine ⟨((List.range (pre.length + 1)).map fun j => num 2 ls.length j * num 2 ls.length (pre.length - j)).sum, (num_two _ _).symm, ?_⟩
          refine (dif_f e1).trans ?_
          have p := prods (l := [some (kv n ls), some (.int (T : Nat)), some (.ref (h.length + 0)), some (.int ((pre.length : Int) + 1)), y, z]) (h := h ++ [.lst ((cl 2 ls.length pre.length).map iN)]) (t := pre.length) (i := h.length + 0) (pi := 2) (ti := 3) (j := 5) kl (by omega) hr rfl rfl (by decide) (by decide) (by simp)
          exact p
      refine ⟨_, _, [some (kv n ls), some (.int (T : Nat)), some (.ref (h.length + 0)), some (.int ((pre.length : Int) + 1)), some (.int (m : Nat)), z], _, rfl, ?_, ⟨_, _, _, rfl⟩, rfl⟩
      unfold lnB
      have p2 := fun rest => set_to (i := 4) (rest := rest) (l1 := [some (kv n ls), some (.int (T : Nat)), some (.ref (h.length + 0)), some (.int ((pre.length : Int) + 1)), some (.int (m : Nat)), z]) em rfl
      refine (p2 _).trans ?_
      rw [GH.expr_eq (GH.app_at (j := h.length + 0) (v := iN (num w ls.length (pre.length + 1))) rfl hr (by
        rw [e_bin, e_len, e_bin, dv rfl, Res.bind_ok, e_c, Res.bind_ok, kv1, Res.bind_ok, vLen_tup, Res.bind_ok, List.length_map, dv rfl, Res.bind_ok, len_mul (by omega), hm]) ll), fin, e_next]
      simp)
  refine (congrArg (fun z : SRes => z.andThen _) e).trans ?_
  rw [SRes.andThen_nx, List.nil_append, List.length_range]
  refine ret_eq ?_
  rw [e_bin, dv rfl, Res.bind_ok, dv rfl, Res.bind_ok]
  exact ix_num (by rw [get_at]; rfl) (Nat.le_refl T)
end L02
set_option Elab.async false
set_option linter.all false
set_option maxRecDepth 100000
set_option maxHeartbeats 1000000
set_option autoImplicit false
namespace L02
open GH PySem
variable [TheWorld]
/-! all shapes of a size, plain -/
def twoL (LL : List (List Sh)) (l : Tx) (j : Nat) : List Sh := (LL.getD j []).flatMap fun a => (LL.getD (LL.length - 1 - j) []).map (Sh.two l a)
def nxtL (w : Nat) (LL : List (List Sh)) (l : Tx) : List Sh := if w = 1 then (LL.getD (LL.length - 1) []).map (Sh.one l) else (List.range LL.length).flatMap (twoL LL l)
def tl (w : Nat) (ls : List Tx) : Nat → List (List Sh)
  | 0 => [[.nil]]
  | t + 1 => tl w ls t ++ [ls.flatMap (nxtL w (tl w ls t))]
theorem tl_len (w : Nat) (ls : List Tx) : ∀ t, (tl w ls t).length = t + 1
  | 0 => rfl
  | t + 1 => by rw [tl, List.length_append, tl_len w ls t]; rfl
theorem tl_pre (w : Nat) (ls : List Tx) {t : Nat} : ∀ {u : Nat} {j : Nat}, t ≤ u → j ≤ t → (tl w ls u).getD j [] = (tl w ls t).getD j []
  | 0, j, h, hj => by rw [show t = 0 by omega]
  | u + 1, j, h, hj => by
    by_cases c : t = u + 1
    · rw [c]
    · rw [tl, gdl (by rw [tl_len]; omega)]
      exact tl_pre w ls (by omega) hj
def sl (w : Nat) (ls : List Tx) (t : Nat) : List Sh := (tl w ls t).getD t []
theorem tl_sl (w : Nat) (ls : List Tx) {t j : Nat} (h : j ≤ t) : (tl w ls t).getD j [] = sl w ls j := tl_pre w ls h (Nat.le_refl j)
theorem sl_succ (w : Nat) (ls : List Tx) (t : Nat) : sl w ls (t + 1) = ls.flatMap (nxtL w (tl w ls t)) := by
  unfold sl
  rw [tl, gdr (by rw [tl_len]; omega), tl_len, Nat.sub_self]
  rfl
theorem nxt_one (ls : List Tx) (t : Nat) (l : Tx) : nxtL 1 (tl 1 ls t) l = (sl 1 ls t).map (Sh.one l) := by
  unfold nxtL
  rw [if_pos rfl, tl_len, Nat.add_sub_cancel]
  rfl
theorem two_sl (w : Nat) (ls : List Tx) {t j : Nat} (h : j ≤ t) (l : Tx) : twoL (tl w ls t) l j = (sl w ls j).flatMap fun a => (sl w ls (t - j)).map (Sh.two l a) := by
  unfold twoL
  rw [tl_len, Nat.add_sub_cancel, tl_sl w ls h, tl_sl w ls (by omega)]
theorem nxt_two (ls : List Tx) (t : Nat) (l : Tx) : nxtL 2 (tl 2 ls t) l = (List.range (t + 1)).flatMap fun j => (sl 2 ls j).flatMap fun a => (sl 2 ls (t - j)).map (Sh.two l a) := by
  unfold nxtL
  rw [if_neg (by decide), tl_len]
  rw [List.flatMap_def, List.flatMap_def]
  congr 1
  refine List.map_congr_left fun j hj => ?_
  have := List.mem_range.mp hj
  exact two_sl 2 ls (by omega) l
theorem sum_const {α : Type} (L : List α) (c : Nat) : (L.map fun _ => c).sum = L.length * c := by
  induction L with
  | nil => simp
  | cons x L ih => rw [List.map_cons, List.sum_cons, ih, List.length_cons, Nat.succ_mul]; omega
theorem len_flat_c {α β : Type} (L : List α) (f : α → List β) (c : Nat) (h : ∀ a ∈ L, (f a).length = c) : (L.flatMap f).length = L.length * c := by
  rw [List.length_flatMap, show (L.map fun a => (f a).length) = L.map fun _ => c from List.map_congr_left h, sum_const]
theorem len_nxt {w : Nat} (hw : w = 1 ∨ w = 2) (ls : List Tx) (t : Nat) (ih : ∀ j ≤ t, (sl w ls j).length = num w ls.length j) (l : Tx) : ls.length * (nxtL w (tl w ls t) l).length = num w ls.length (t + 1) := by
  rcases hw with rfl | rfl
  · rw [nxt_one, List.length_map, ih t (Nat.le_refl t), num_one]
  · rw [nxt_two, num_two, List.length_flatMap]
    congr 2
    refine List.map_congr_left fun j hj => ?_
    have := List.mem_range.mp hj
    rw [len_flat_c _ _ (num 2 ls.length (t - j)) fun a _ => by rw [List.length_map]; exact ih _ (by omega), ih j (by omega)]
theorem sl_len {w : Nat} (hw : w = 1 ∨ w = 2) (ls : List Tx) : ∀ t, ∀ j ≤ t, (sl w ls j).length = num w ls.length j := by
  intro t
  induction t with
  | zero => intro j hj; rw [show j = 0 by omega]; rfl
  | succ t ih =>
    intro j hj
    by_cases c : j ≤ t
    · exact ih j c
    obtain rfl : j = t + 1 := by omega
    rw [sl_succ]
    cases hl : ls with
    | nil =>
      rcases hw with rfl | rfl
      · rw [num_one]; simp
      · rw [num_two]; simp
    | cons l0 lr =>
      rw [← hl, len_flat_c _ _ (nxtL w (tl w ls t) l0).length, len_nxt hw ls t ih]
      intro a _
      have h1 := len_nxt hw ls t ih a
      have h2 := len_nxt hw ls t ih l0
      have hp : 0 < ls.length := by rw [hl]; exact Nat.succ_pos _
      exact Nat.eq_of_mul_eq_mul_left hp (h1.trans h2.symm)
theorem sl_ok {n : Int} {ls : List Tx} {w : Nat} (hw : w = 1 ∨ w = 2) (en : n = (w : Nat)) : ∀ t, ∀ j ≤ t, ∀ s ∈ sl w ls j, s.ok n ls ∧ s.size = j := by
  intro t
  induction t with
  | zero =>
    intro j hj s hs
    rw [show j = 0 by omega] at hs ⊢
    rw [List.mem_singleton.mp hs]
    exact ⟨trivial, rfl⟩
  | succ t ih =>
    intro j hj s hs
    by_cases c : j ≤ t
    · exact ih j c s hs
    obtain rfl : j = t + 1 := by omega
    rw [sl_succ] at hs
    obtain ⟨l, hl, hs⟩ := List.mem_flatMap.mp hs
    rcases hw with rfl | rfl
    · rw [nxt_one] at hs
      obtain ⟨c, hc, rfl⟩ := List.mem_map.mp hs
      have := ih t (Nat.le_refl t) c hc
      exact ⟨⟨en, hl, this.1⟩, by rw [Sh.size, this.2]⟩
    · rw [nxt_two] at hs
      obtain ⟨j, hj, hs⟩ := List.mem_flatMap.mp hs
      obtain ⟨a, ha, hs⟩ := List.mem_flatMap.mp hs
      obtain ⟨b, hb, rfl⟩ := List.mem_map.mp hs
      have := List.mem_range.mp hj
      have h1 := ih j (by omega) a ha
      have h2 := ih (t - j) (by omega) b hb
      exact ⟨⟨en, hl, h1.1, h2.1⟩, by rw [Sh.size, h1.2, h2.2]; omega⟩
/-! texts tell shapes apart -/
theorem txt_pre {n : Int} {ls : List Tx} (kk : KOk n ls) : ∀ {s u : Sh} {p q : Tx}, s.ok n ls → u.ok n ls → s.txt ++ p = u.txt ++ q → s = u ∧ p = q
  | .nil, u, p, q, _, gu, e => by
    cases u with
    | nil => exact ⟨rfl, List.append_cancel_left e⟩
    | one l c =>
      obtain ⟨x, rfl, h1, _⟩ := kk.one l gu.2.1
      simp only [Sh.txt, List.cons_append, List.nil_append, List.cons.injEq] at e
      exact absurd e.1 (by omega)
    | two l a b =>
      obtain ⟨x, rfl, h1, _⟩ := kk.one l gu.2.1
      simp only [Sh.txt, List.cons_append, List.nil_append, List.cons.injEq] at e
      exact absurd e.1 (by omega)
  | .one l c, u, p, q, gs, gu, e => by
    obtain ⟨x, rfl, h1, _⟩ := kk.one l gs.2.1
    cases u with
    | nil =>
      simp only [Sh.txt, List.cons_append, List.nil_append, List.cons.injEq] at e
      exact absurd e.1 (by omega)
    | one l2 c2 =>
      obtain ⟨y, rfl, _, _⟩ := kk.one l2 gu.2.1
      simp only [Sh.txt, List.cons_append, List.nil_append, List.cons.injEq] at e
      obtain ⟨e1, e2⟩ := txt_pre kk gs.2.2 gu.2.2 e.2
      exact ⟨by rw [e.1, e1], e2⟩
    | two l2 a b => exact absurd (gs.1.symm.trans gu.1) (by decide)
  | .two l a b, u, p, q, gs, gu, e => by
    obtain ⟨x, rfl, h1, _⟩ := kk.one l gs.2.1
    cases u with
    | nil =>
      simp only [Sh.txt, List.cons_append, List.nil_append, List.cons.injEq] at e
      exact absurd e.1 (by omega)
    | one l2 c2 => exact absurd (gu.1.symm.trans gs.1) (by decide)
    | two l2 a2 b2 =>
      obtain ⟨y, rfl, _, _⟩ := kk.one l2 gu.2.1
      simp only [Sh.txt, List.cons_append, List.nil_append, List.append_assoc, List.cons.injEq, true_and] at e
      obtain ⟨e1, e2⟩ := txt_pre kk gs.2.2.1 gu.2.2.1 e.2
      simp only [List.cons.injEq, true_and] at e2
      obtain ⟨e3, e4⟩ := txt_pre kk gs.2.2.2 gu.2.2.2 e2
      simp only [List.cons.injEq, true_and] at e4
      exact ⟨by rw [e.1, e1, e3], e4⟩
theorem txt_inj {n : Int} {ls : List Tx} (kk : KOk n ls) {s u : Sh} (gs : s.ok n ls) (gu : u.ok n ls) (e : s.txt = u.txt) : s = u := (txt_pre kk (p := []) (q := []) gs gu (by rw [e])).1
end L02
set_option Elab.async false
set_option linter.all false
set_option maxRecDepth 100000
set_option maxHeartbeats 1000000
set_option autoImplicit false
namespace L02
open GH PySem
variable [TheWorld]
/-! loops over lists that are ours -/
section
variable {di : DenG Src} {t : Tg} {b rest : Stm} {e : Den} {l : GH.Loc} {h h1 : Hv}
theorem for_indS {α : Type} (V : α → Val) (R : List α → GH.Loc → Hv → Prop) {s : Src} (so : ∀ p l h, R p l h → srcOk s h) : ∀ (L pre : List α) (l : GH.Loc) (h : Hv), R pre l h →
    (∀ p x q l h, pre ++ L = p ++ x :: q → R p l h → ∃ l1 h1 l2 h2, t (V x) l h = .ok l1 h1 ∧ b l1 h1 = .nx l2 h2 ∧ R (p ++ [x]) l2 h2) → ∃ l' h', forL t b s (L.map V) l h = .nx l' h' ∧ R (pre ++ L) l' h'
  | [], pre, l, h, r, _ => ⟨l, h, by simp only [List.map_nil, forL, so _ _ _ r, if_true], by rw [List.append_nil]; exact r⟩
  | x :: L, pre, l, h, r, step => by
    obtain ⟨l1, h1, l2, h2, e1, e2, r2⟩ := step pre x L l h rfl r
    obtain ⟨l', h', e3, r3⟩ := for_indS V R so L (pre ++ [x]) l2 h2 r2 fun p y q l h e => step p y q l h (by rw [← e]; simp)
    refine ⟨l', h', ?_, by simpa using r3⟩
    simp only [List.map_cons, forL, so _ _ _ r, if_true, e1, e2, SRes.turn_nx]
    simpa using e3
theorem for_eqS {s : Src} (e : di l h = .ok s h1) : sSeq (sFor di t b) rest l h = (forL t b s s.1 l h1).andThen rest := by
  rw [e_seq, e_for, e, Res.to_ok]
theorem dlc_eqS {α : Type} {vs : List Nat} {o : Option Nat} (V G : α → Val) (L : List α) (ed : di l h = .ok (L.map V, o) h) (so : srcOk (L.map V, o) h) (q : ∀ p ∈ L, ∃ l1, t (V p) (wipeL l vs) h = .ok l1 h ∧ e l1 h = .ok (G p) h) : dLc frozen vs di t dYes e l h = .ok (.lst (L.map G)) h := by
  unfold dLc
  rw [ed, Res.bind_ok, lcL_mapL V G so L [] q]
  rfl
end
abbrev sv (L : List Sh) : Val := .lst (L.map Sh.val)
section
variable {l : GH.Loc} {h : Hv} {lab : Tx} {i : DenG Src} {o : Option Nat} {li la lb : Nat} {B : List Sh}
theorem comp_two {a : Sh} (ed : i l h = .ok (B.map Sh.val, o) h) (so : srcOk (B.map Sh.val, o) h) (e1 : l[li]? = some (some (.str lab))) (e2 : l[la]? = some (some a.val)) (n1 : li ≠ lb) (n2 : la ≠ lb) (hb : lb < l.length) :
    dLc frozen [lb] i (gName lb) dYes (dTup (dCons (dVar li) (dCons (dVar la) (dCons (dVar lb) dNil)))) l h = .ok (sv (B.map (Sh.two lab a))) h := by
  have e := dlc_eqS (t := gName lb) (e := dTup (dCons (dVar li) (dCons (dVar la) (dCons (dVar lb) dNil)))) (vs := [lb]) Sh.val (fun b => (Sh.two lab a b).val) B ed so fun p _ => by
    refine ⟨(wipeL l [lb]).set lb (some p.val), rfl, ?_⟩
    have w : wipeL l [lb] = l.set lb none := rfl
    rw [w]
    have g1 : ((l.set lb none).set lb (some p.val))[li]? = some (some (.str lab)) := by
      rw [List.getElem?_set_ne (Ne.symm n1), List.getElem?_set_ne (Ne.symm n1)]; exact e1
    have g2 : ((l.set lb none).set lb (some p.val))[la]? = some (some a.val) := by
      rw [List.getElem?_set_ne (Ne.symm n2), List.getElem?_set_ne (Ne.symm n2)]; exact e2
    have g3 : ((l.set lb none).set lb (some p.val))[lb]? = some (some p.val) := by
      rw [List.getElem?_set_self (by simpa using hb)]
    rw [e_tup, e_cons, dv g1, Res.bind_ok, e_cons, dv g2, Res.bind_ok, e_cons, dv g3, Res.bind_ok, e_nil, Res.bind_ok, Res.bind_ok, Res.bind_ok, Res.bind_ok, mkT_ok (by simp)]
    rfl
  rw [e, sv, List.map_map]
  rfl
theorem comp_one (ed : i l h = .ok (B.map Sh.val, o) h) (so : srcOk (B.map Sh.val, o) h) (e1 : l[li]? = some (some (.str lab))) (n1 : li ≠ lb) (hb : lb < l.length) :
    dLc frozen [lb] i (gName lb) dYes (dTup (dCons (dVar li) (dCons (dVar lb) dNil))) l h = .ok (sv (B.map (Sh.one lab))) h := by
  have e := dlc_eqS (t := gName lb) (e := dTup (dCons (dVar li) (dCons (dVar lb) dNil))) (vs := [lb]) Sh.val (fun b => (Sh.one lab b).val) B ed so fun p _ => by
    refine ⟨(wipeL l [lb]).set lb (some p.val), rfl, ?_⟩
    have w : wipeL l [lb] = l.set lb none := rfl
    rw [w]
    have g1 : ((l.set lb none).set lb (some p.val))[li]? = some (some (.str lab)) := by
      rw [List.getElem?_set_ne (Ne.symm n1), List.getElem?_set_ne (Ne.symm n1)]; exact e1
    have g3 : ((l.set lb none).set lb (some p.val))[lb]? = some (some p.val) := by
      rw [List.getElem?_set_self (by simpa using hb)]
    rw [e_tup, e_cons, dv g1, Res.bind_ok, e_cons, dv g3, Res.bind_ok, e_nil, Res.bind_ok, Res.bind_ok, Res.bind_ok, mkT_ok (by simp)]
    rfl
  rw [e, sv, List.map_map]
  rfl
end
theorem flat_le {α β : Type} {L p q : List α} {f : α → List β} {x : α} (e : L = p ++ x :: q) : (p.flatMap f).length + (f x).length ≤ (L.flatMap f).length := by
  rw [e, List.flatMap_append, List.flatMap_cons, List.length_append, List.length_append]
  omega
theorem flat_snoc {α β : Type} {p : List α} {f : α → List β} {x : α} : (p ++ [x]).flatMap f = p.flatMap f ++ f x := by
  rw [List.flatMap_append, List.flatMap_cons, List.flatMap_nil, List.append_nil]
/-! _law_all -/
noncomputable abbrev laF : Stm := (sSeq (sAsg (dBin vAdd (dVar 4) (dLc frozen [9] (iSeq (dBin vIx (dVar 2) (dBin vSub (dBin vSub (dVar 3) (dC (.int 1))) (dVar 6)))) (gName 9) dYes (dTup (dCons (dVar 5) (dCons (dVar 7) (dCons (dVar 9) dNil)))))) (gName 4))
    sNext)
noncomputable abbrev laL : Stm := (sSeq (sFor (iSeq (dBin vIx (dVar 2) (dVar 6))) (gName 7) laF)
    sNext)
noncomputable abbrev laB : Stm := (sSeq (sIf (dB (dBin vEq (dBin vIx (dVar 0) (dC (.int 0))) (dC (.int 1)))) (sSeq (sAsg (dBin vAdd (dVar 4) (dLc frozen [8] (iSeq (dBin vIx (dVar 2) (dBin vSub (dVar 3) (dC (.int 1))))) (gName 8) dYes (dTup (dCons (dVar 5) (dCons (dVar 8) dNil))))) (gName 4))
    sNext) (sSeq (sFor (iRange1 (dVar 3)) (gName 6) laL)
    sNext))
    sNext)
abbrev laV (K C S : Val) (t : Nat) (F : List Sh) (lab : Val) (z6 z7 z8 z9 : Option Val) : GH.Loc := [some K, some C, some S, some (.int ((t : Int) + 1)), some (sv F), some lab, z6, z7, z8, z9]
section
variable {K C S : Val} {G : Hv} {ls : List Tx} {t : Nat}
theorem la_first (iS : ∀ i ≤ t, vIx S (.int (i : Nat)) G = .ok (sv (sl 2 ls i)) G) {lab : Tx} {j : Nat} (hj : j ≤ t) {F : List Sh} (hb : F.length + ((sl 2 ls j).flatMap fun a => (sl 2 ls (t - j)).map (Sh.two lab a)).length ≤ 16777216) (z7 z8 z9 : Option Val) :
    ∃ z7', forL (gName 7) laF ((sl 2 ls j).map Sh.val, none) ((sl 2 ls j).map Sh.val) (laV K C S t F (.str lab) (some (.int (j : Nat))) z7 z8 z9) G = .nx (laV K C S t (F ++ (sl 2 ls j).flatMap fun a => (sl 2 ls (t - j)).map (Sh.two lab a)) (.str lab) (some (.int (j : Nat))) z7' z8 z9) G := by
  obtain ⟨l', h', e, ⟨z, rfl⟩, rfl⟩ := for_ind (t := gName 7) (b := laF) (it := (sl 2 ls j).map Sh.val) Sh.val (fun p l h => (∃ z, l = laV K C S t (F ++ p.flatMap fun a => (sl 2 ls (t - j)).map (Sh.two lab a)) (.str lab) (some (.int (j : Nat))) z z8 z9) ∧ h = G) (sl 2 ls j) [] (laV K C S t F (.str lab) (some (.int (j : Nat))) z7 z8 z9) G ⟨⟨_, by rw [List.flatMap_nil, List.append_nil]⟩, rfl⟩ (by
      rintro p x q l h e ⟨⟨z, rfl⟩, rfl⟩
      have le := flat_le (f := fun a => (sl 2 ls (t - j)).map (Sh.two lab a)) (show sl 2 ls j = p ++ x :: q from e)
      generalize hF : F ++ (p.flatMap fun a => (sl 2 ls (t - j)).map (Sh.two lab a)) = F1
      have lF : F1.length = F.length + (p.flatMap fun a => (sl 2 ls (t - j)).map (Sh.two lab a)).length := by rw [← hF, List.length_append]
      refine ⟨laV K C S t F1 (.str lab) (some (.int (j : Nat))) (some x.val) z8 z9, h, laV K C S t (F1 ++ (sl 2 ls (t - j)).map (Sh.two lab x)) (.str lab) (some (.int (j : Nat))) (some x.val) z8 z9, h, rfl, ?_, ⟨_, by rw [flat_snoc, ← List.append_assoc, hF]⟩, rfl⟩
      have c := comp_two (i := iSeq (dBin vIx (dVar 2) (dBin vSub (dBin vSub (dVar 3) (dC (.int 1))) (dVar 6)))) (l := laV K C S t F1 (.str lab) (some (.int (j : Nat))) (some x.val) z8 z9) (h := h) (lab := lab) (a := x) (li := 5) (la := 7) (lb := 9) (o := none) (B := sl 2 ls (t - j)) (by
        rw [e_iseq, e_bin, dv rfl, Res.bind_ok, e_bin, e_bin, dv rfl, Res.bind_ok, e_c, Res.bind_ok, vSub_int, Res.bind_ok, dv rfl, Res.bind_ok, vSub_int, Res.bind_ok, show (t : Int) + 1 - 1 - (j : Nat) = ((t - j : Nat) : Int) by omega, iS _ (by omega), Res.bind_ok, vIter_lst]) trivial rfl rfl (by decide) (by decide) (by simp)
      have p2 := fun rest => set_to (i := 4) (rest := rest) (l := laV K C S t F1 (.str lab) (some (.int (j : Nat))) (some x.val) z8 z9) (h := h) (h1 := h) (v := sv (F1 ++ (sl 2 ls (t - j)).map (Sh.two lab x))) (d := dBin vAdd (dVar 4) (dLc frozen [9] (iSeq (dBin vIx (dVar 2) (dBin vSub (dBin vSub (dVar 3) (dC (.int 1))) (dVar 6)))) (gName 9) dYes (dTup (dCons (dVar 5) (dCons (dVar 7) (dCons (dVar 9) dNil)))))) (l1 := laV K C S t (F1 ++ (sl 2 ls (t - j)).map (Sh.two lab x)) (.str lab) (some (.int (j : Nat))) (some x.val) z8 z9) (by
        rw [e_bin, dv rfl, Res.bind_ok, c, Res.bind_ok, add_lst (by simp only [List.length_map] at le ⊢; omega), sv, List.map_append]) rfl
      unfold laF
      rw [p2, e_next])
  exact ⟨z, e⟩
theorem la_left (iS : ∀ i ≤ t, vIx S (.int (i : Nat)) G = .ok (sv (sl 2 ls i)) G) {lab : Tx} {F : List Sh} (hb : F.length + (nxtL 2 (tl 2 ls t) lab).length ≤ 16777216) (z6 z7 z8 z9 : Option Val) :
    ∃ z6' z7', forL (gName 6) laL ((List.range (t + 1)).map fun j : Nat => Val.int j, none) ((List.range (t + 1)).map fun j : Nat => Val.int j) (laV K C S t F (.str lab) z6 z7 z8 z9) G = .nx (laV K C S t (F ++ nxtL 2 (tl 2 ls t) lab) (.str lab) z6' z7' z8 z9) G := by
  rw [nxt_two] at hb ⊢
  obtain ⟨l', h', e, ⟨z, y, rfl⟩, rfl⟩ := for_ind (t := gName 6) (b := laL) (it := (List.range (t + 1)).map fun j : Nat => Val.int j) (fun j : Nat => Val.int j) (fun p l h => (∃ z y, l = laV K C S t (F ++ p.flatMap fun j => (sl 2 ls j).flatMap fun a => (sl 2 ls (t - j)).map (Sh.two lab a)) (.str lab) z y z8 z9) ∧ h = G) (List.range (t + 1)) [] (laV K C S t F (.str lab) z6 z7 z8 z9) G ⟨⟨_, _, by rw [List.flatMap_nil, List.append_nil]⟩, rfl⟩ (by
      rintro p j q l h e ⟨⟨z, y, rfl⟩, rfl⟩
      have le := flat_le (f := fun j => (sl 2 ls j).flatMap fun a => (sl 2 ls (t - j)).map (Sh.two lab a)) (show List.range (t + 1) = p ++ j :: q from e)
      obtain ⟨_, hj⟩ := range_at (show List.range (t + 1) = p ++ j :: q from e)
      generalize hF : F ++ (p.flatMap fun j => (sl 2 ls j).flatMap fun a => (sl 2 ls (t - j)).map (Sh.two lab a)) = F1
      have lF : F1.length = F.length + (p.flatMap fun j => (sl 2 ls j).flatMap fun a => (sl 2 ls (t - j)).map (Sh.two lab a)).length := by rw [← hF, List.length_append]
      obtain ⟨z', e1⟩ := la_first (K := K) (C := C) iS (lab := lab) (j := j) (by omega) (F := F1) (by omega) y z8 z9
      refine ⟨laV K C S t F1 (.str lab) (some (.int (j : Nat))) y z8 z9, h, _, h, rfl, ?_, ⟨some (.int (j : Nat)), z', by rw [flat_snoc, ← List.append_assoc, hF]⟩, rfl⟩
      unfold laL
      rw [for_eq (it := (sl 2 ls j).map Sh.val) (h1 := h) (by rw [e_iseq, e_bin, dv rfl, Res.bind_ok, dv rfl, Res.bind_ok, iS j (by omega), Res.bind_ok, vIter_lst]), e1, SRes.andThen_nx, e_next])
  exact ⟨z, y, e⟩
end
section
variable {K C S : Val} {G : Hv} {ls : List Tx} {t w : Nat}
theorem la_lab (hw : w = 1 ∨ w = 2) (iK : vIx K (.int 0) G = .ok (.int (w : Nat)) G) (iS : ∀ i ≤ t, vIx S (.int (i : Nat)) G = .ok (sv (sl w ls i)) G) (ht : t ≤ 30) (hb : (sl w ls (t + 1)).length ≤ 16777216) (z5 z6 z7 z8 z9 : Option Val) :
    ∃ z5' z6' z7', forL (gName 5) laB (ls.map .str, none) (ls.map .str) [some K, some C, some S, some (.int ((t : Int) + 1)), some (sv []), z5, z6, z7, z8, z9] G = .nx [some K, some C, some S, some (.int ((t : Int) + 1)), some (sv (sl w ls (t + 1))), z5', z6', z7', z8, z9] G := by
  rw [sl_succ] at hb ⊢
  obtain ⟨l', h', e, ⟨x, y, z, rfl⟩, rfl⟩ := for_ind (t := gName 5) (b := laB) (it := ls.map .str) Val.str (fun p l h => (∃ x y z, l = [some K, some C, some S, some (.int ((t : Int) + 1)), some (sv (p.flatMap (nxtL w (tl w ls t)))), x, y, z, z8, z9]) ∧ h = G) ls [] [some K, some C, some S, some (.int ((t : Int) + 1)), some (sv []), z5, z6, z7, z8, z9] G ⟨⟨_, _, _, rfl⟩, rfl⟩ (by
      rintro p lab q l h e ⟨⟨x, y, z, rfl⟩, rfl⟩
      have le := flat_le (f := nxtL w (tl w ls t)) (show ls = p ++ lab :: q from e)
      generalize hF : p.flatMap (nxtL w (tl w ls t)) = F1
      rw [hF] at le
      have e1 : dB (dBin vEq (dBin vIx (dVar 0) (dC (.int 0))) (dC (.int 1))) (laV K C S t F1 (.str lab) y z z8 z9) h = .ok (decide (w = 1)) h := by
        rw [e_b, e_bin, e_bin, dv rfl, Res.bind_ok, e_c, Res.bind_ok, iK, Res.bind_ok, e_c, Res.bind_ok, vEq_int, resB_bl]
        congr 1
        exact decide_eq_decide.mpr (by omega)
      rcases hw with rfl | rfl
      · refine ⟨laV K C S t F1 (.str lab) y z z8 z9, h, laV K C S t (F1 ++ nxtL 1 (tl 1 ls t) lab) (.str lab) y z z8 z9, h, rfl, ?_, ⟨_, _, _, by rw [flat_snoc, hF]⟩, rfl⟩
        unfold laB
        refine (iff_t e1).trans ?_
        rw [nxt_one] at le ⊢
        have c := comp_one (i := iSeq (dBin vIx (dVar 2) (dBin vSub (dVar 3) (dC (.int 1))))) (l := laV K C S t F1 (.str lab) y z z8 z9) (h := h) (lab := lab) (li := 5) (lb := 8) (o := none) (B := sl 1 ls t) (by
          rw [e_iseq, e_bin, dv rfl, Res.bind_ok, e_bin, dv rfl, Res.bind_ok, e_c, Res.bind_ok, vSub_int, Res.bind_ok, show (t : Int) + 1 - 1 = (t : Nat) by omega, iS _ (Nat.le_refl t), Res.bind_ok, vIter_lst]) trivial rfl (by decide) (by simp)
        have p2 := fun rest => set_to (i := 4) (rest := rest) (l := laV K C S t F1 (.str lab) y z z8 z9) (h := h) (h1 := h) (v := sv (F1 ++ (sl 1 ls t).map (Sh.one lab))) (d := dBin vAdd (dVar 4) (dLc frozen [8] (iSeq (dBin vIx (dVar 2) (dBin vSub (dVar 3) (dC (.int 1))))) (gName 8) dYes (dTup (dCons (dVar 5) (dCons (dVar 8) dNil))))) (l1 := laV K C S t (F1 ++ (sl 1 ls t).map (Sh.one lab)) (.str lab) y z z8 z9) (by
          rw [e_bin, dv rfl, Res.bind_ok, c, Res.bind_ok, add_lst (by simp only [List.length_map] at le ⊢; omega), sv, List.map_append]) rfl
        rw [p2, e_next, SRes.andThen_nx, e_next]
      · obtain ⟨y', z', e2⟩ := la_left (K := K) (C := C) iS (lab := lab) (F := F1) (by omega) y z z8 z9
        refine ⟨laV K C S t F1 (.str lab) y z z8 z9, h, laV K C S t (F1 ++ nxtL 2 (tl 2 ls t) lab) (.str lab) y' z' z8 z9, h, rfl, ?_, ⟨_, _, _, by rw [flat_snoc, hF]⟩, rfl⟩
        unfold laB
        refine (iff_f e1).trans ?_
        have er : iRange1 (dVar 3) (laV K C S t F1 (.str lab) y z z8 z9) h = .ok ((List.range (t + 1)).map fun j : Nat => Val.int j, none) h := by
          rw [e_rng1, dv rfl, Res.bind_ok, show (t : Int) + 1 = ((t + 1 : Nat) : Int) by omega]
          exact rng1_eq (by omega)
        rw [for_eq er, e2, SRes.andThen_nx, e_next, SRes.andThen_nx, e_next])
  exact ⟨x, y, z, e⟩
end
end L02
set_option Elab.async false
set_option linter.all false
set_option maxRecDepth 100000
set_option maxHeartbeats 1000000
set_option autoImplicit false
namespace L02
open GH PySem
variable [TheWorld]
/-! shapes in the order of their texts -/
def txD (s : Sh) : PyData := .str (sOf s.txt)
noncomputable def srtS (L : List Sh) : List Sh := L.mergeSort (PySem.W.dataLe false txD)
theorem srtS_mem {L : List Sh} {s : Sh} : s ∈ srtS L ↔ s ∈ L := (List.mergeSort_perm L _).mem_iff
theorem srtS_len (L : List Sh) : (srtS L).length = L.length := (List.mergeSort_perm L _).length_eq
theorem keys_sh {db : Den} {h : Hv} : ∀ {L : List Sh}, (∀ s ∈ L, db [some s.val] h = .ok (.str s.txt) h) → keysOf db h (L.map Sh.val) = some (L.map txD)
  | [], _ => rfl
  | s :: L, q => by
    rw [List.map_cons, keysOf, q s (List.mem_cons_self ..)]
    dsimp only
    rw [if_pos rfl, keys_sh fun x hx => q x (List.mem_cons_of_mem _ hx)]
    rfl
theorem alike_tx (L : List Sh) : alikeB (L.map txD) = true := by
  unfold alikeB
  refine List.all_eq_true.mpr fun a ha => List.all_eq_true.mpr fun b hb => ?_
  obtain ⟨p, _, rfl⟩ := List.mem_map.mp ha
  obtain ⟨q, _, rfl⟩ := List.mem_map.mp hb
  rfl
theorem sorted_tx (L : List Sh) : sortKeyed ((L.map Sh.val).zip (L.map txD)) = (srtS L).map Sh.val := by
  unfold sortKeyed srtS
  rw [List.zip_map', ← List.map_mergeSort (r := PySem.W.dataLe false txD) (f := fun s : Sh => (s.val, txD s)) fun a _ b _ => rfl, List.map_map]
  rfl
theorem sortKey_sh {nm : List Nat} {d db : Den} {l : GH.Loc} {h : Hv} {L : List Sh} (ed : d l h = .ok (sv L) h) (ht : h[0]? = some (.tbl nm)) (q : ∀ s ∈ L, db [some s.val] h = .ok (.str s.txt) h) : dSortKey nm 0 d db l h = .ok (sv (srtS L)) h := by
  unfold dSortKey
  rw [ed, Res.bind_ok]
  simp only [lstOf, ht, if_true, keys_sh q, alike_tx, sorted_tx]
/-! _law_all -/
noncomputable abbrev laT : Stm := (sSeq (sAsg (dLst dNil) (gName 4))
    (sSeq (sFor (iSeq (dBin vIx (dVar 0) (dC (.int 1)))) (gName 5) laB)
    (sSeq (sExpr (dMeth1 isLst vAppend (dVar 2) (dVar 4)))
    sNext)))
theorem ix_tl {w : Nat} {ls : List Tx} {t j : Nat} {h : Hv} {i : Nat} (hv : h[i]? = some (.lst ((tl w ls t).map sv))) (hj : j ≤ t) : vIx (.ref i) (.int (j : Nat)) h = .ok (sv (sl w ls j)) h := by
  have hl : j < (tl w ls t).length := by rw [tl_len]; omega
  have e : (tl w ls t)[j]? = some (sl w ls j) := by
    rw [List.getElem?_eq_getElem hl, ← tl_sl w ls hj, List.getD_eq_getElem?_getD, List.getElem?_eq_getElem hl]
    rfl
  have : nth ((tl w ls t).map sv) (j : Int) = some (sv (sl w ls j)) := nth_nat (by rw [List.getElem?_map, e]; rfl)
  simp [vIx, seqOf, lstOf, hv, this]
theorem tl_set {w : Nat} {ls : List Tx} {t : Nat} (h : Hv) : (h ++ [Ob.lst ((tl w ls t).map sv)]).set (h.length + 0) (.lst ((tl w ls t).map sv ++ [sv (sl w ls (t + 1))])) = h ++ [.lst ((tl w ls (t + 1)).map sv)] := by
  rw [set_at, List.set_cons_zero, tl, List.map_append, ← sl_succ]
  rfl
theorem sl_le {w : Nat} {ls : List Tx} (hw : w = 1 ∨ w = 2) (hk : 0 < ls.length) {T t : Nat} (h : t ≤ T) (hn : num w ls.length T ≤ 300) : (sl w ls t).length ≤ 300 := by
  rw [sl_len hw ls t t (Nat.le_refl t)]
  exact Nat.le_trans (num_le hw hk h) hn
theorem okVs_sv {n : Int} {ls : List Tx} (kk : KOk n ls) : ∀ {L : List Sh}, (∀ s ∈ L, s.ok n ls) → okVs (L.map Sh.val) = true
  | [], _ => rfl
  | s :: L, h => by
    rw [List.map_cons, okVs, Sh.okv kk (h s (List.mem_cons_self ..)), okVs_sv kk fun x hx => h x (List.mem_cons_of_mem _ hx)]
    rfl
theorem la_of {k : Nat} {a b : Val} {h g : Hv} {v : Val} (q : runDef 10 (b__law_all (lev D k)) [a, b] h = .ok v (h ++ g)) (o : okV v = true) : lev D (k + 1) 11 [a, b] h = .ok v h := tidy_okE (r := runDef 10 (b__law_all (lev D k)) [a, b] h) q o
theorem la_eq {n : Int} {ls : List Tx} (kk : KOk n ls) {w : Nat} (hw : w = 1 ∨ w = 2) (en : n = (w : Nat)) {T : Nat} (hT : T ≤ 30) (hn : num w ls.length T ≤ 300) {k : Nat} {h : Hv} (ht : h[0]? = some (.tbl [95, 108, 97, 119, 95, 97, 108, 108])) : lev D (k + T + 2) 11 [kv n ls, .int (T : Nat)] h = .ok (sv (srtS (sl w ls T))) h := by
  have kl := kk.len
  have all := fun j (hj : j ≤ T) => sl_ok (n := n) (ls := ls) hw en j j (Nat.le_refl j)
  suffices q : b__law_all (lev D (k + T + 1)) [some (kv n ls), some (.int (T : Nat)), none, none, none, none, none, none, none, none] h = .rt (sv (srtS (sl w ls T))) (h ++ [.lst ((tl w ls T).map sv)]) by
    exact la_of (GH.run_rt q) (okVs_sv kk fun s hs => (all T (Nat.le_refl T) s (srtS_mem.mp hs)).1)
  have iK0 : ∀ G, vIx (kv n ls) (.int 0) G = .ok (.int (w : Nat)) G := fun G => by rw [kv0, en]
  have iK1 : ∀ G, vIx (kv n ls) (.int 1) G = .ok (.tup (ls.map .str)) G := fun G => kv1
  generalize kv n ls = K at iK0 iK1 ⊢
  unfold b__law_all
  rw [set_to (v := .ref (h.length + 0)) (h1 := h ++ [.lst ((tl w ls 0).map sv)]) (l1 := [some K, some (.int (T : Nat)), some (.ref (h.length + 0)), none, none, none, none, none, none, none]) (by
    rw [e_lstM, e_cons, e_lst, e_cons, e_tup, e_nil, Res.bind_ok, mkT_ok (by simp), Res.bind_ok, e_nil, Res.bind_ok, Res.bind_ok, mkL_ok (by simp), Res.bind_ok, e_nil, Res.bind_ok, Res.bind_ok, mkR_ok (by simp)]; rfl) rfl]
  rw [for_eq (it := (List.range T).map fun i : Nat => Val.int ((i : Int) + 1)) (h1 := h ++ [.lst ((tl w ls 0).map sv)]) (by
    rw [e_rng2, e_c, Res.bind_ok, e_bin, dv rfl, Res.bind_ok, e_c, Res.bind_ok, vAdd_int, Res.bind_ok]
    exact range_one T hT _)]
  obtain ⟨l', h', e, ⟨x, z4, z5, z6, z7, z8, z9, rfl⟩, rfl⟩ := for_ind (t := gName 3) (b := laT) (it := (List.range T).map fun i : Nat => Val.int ((i : Int) + 1)) (fun i : Nat => Val.int ((i : Int) + 1))
    (fun pre l h' => (∃ x z4 z5 z6 z7 z8 z9, l = [some K, some (.int (T : Nat)), some (.ref (h.length + 0)), x, z4, z5, z6, z7, z8, z9]) ∧ h' = h ++ [.lst ((tl w ls pre.length).map sv)])
    (List.range T) [] [some K, some (.int (T : Nat)), some (.ref (h.length + 0)), none, none, none, none, none, none, none] (h ++ [.lst ((tl w ls 0).map sv)]) ⟨⟨_, _, _, _, _, _, _, rfl⟩, rfl⟩ (by
      rintro pre t q l h0 e ⟨⟨x, z4, z5, z6, z7, z8, z9, rfl⟩, rfl⟩
      obtain ⟨et, lt⟩ := range_at (show List.range T = pre ++ t :: q from e)
      subst et
      generalize hG : h ++ [Ob.lst ((tl w ls pre.length).map sv)] = G
      have hr : G[h.length + 0]? = some (.lst ((tl w ls pre.length).map sv)) := by rw [← hG, get_at]; rfl
      have ll : ((tl w ls pre.length).map sv).length < 16777216 := by rw [List.length_map, tl_len]; omega
      have fin := tl_set (w := w) (ls := ls) (t := pre.length) h
      rw [hG] at fin
      have sz := sl_le (ls := ls) hw (by omega) (show pre.length + 1 ≤ T by omega) hn
      obtain ⟨y5, y6, y7, e2⟩ := la_lab (K := K) (C := .int (T : Nat)) (S := .ref (h.length + 0)) hw (iK0 G) (fun i hi => ix_tl hr hi) (by omega) (by omega) z5 z6 z7 z8 z9
      refine ⟨[some K, some (.int (T : Nat)), some (.ref (h.length + 0)), some (.int ((pre.length : Int) + 1)), z4, z5, z6, z7, z8, z9], G, [some K, some (.int (T : Nat)), some (.ref (h.length + 0)), some (.int ((pre.length : Int) + 1)), some (sv (sl w ls (pre.length + 1))), y5, y6, y7, z8, z9], h ++ [.lst ((tl w ls (pre.length + 1)).map sv)], rfl, ?_, ⟨_, _, _, _, _, _, _, rfl⟩, by rw [List.length_append]; rfl⟩
      unfold laT
      rw [set_to (i := 4) (v := sv []) (h1 := G) (l1 := [some K, some (.int (T : Nat)), some (.ref (h.length + 0)), some (.int ((pre.length : Int) + 1)), some (sv []), z5, z6, z7, z8, z9]) (by rw [e_lst, e_nil, Res.bind_ok, mkL_ok (by simp)]; rfl) rfl]
      rw [for_eq (it := ls.map .str) (h1 := G) (by rw [e_iseq, e_bin, dv rfl, Res.bind_ok, e_c, Res.bind_ok, iK1, Res.bind_ok, vIter_tup]), e2, SRes.andThen_nx]
      rw [GH.expr_eq (GH.app_at (j := h.length + 0) (v := sv (sl w ls (pre.length + 1))) rfl hr (dv rfl) ll), fin, e_next])
  refine (congrArg (fun z : SRes => z.andThen _) e).trans ?_
  rw [SRes.andThen_nx, List.nil_append, List.length_range]
  refine ret_eq ?_
  refine sortKey_sh (L := sl w ls T) ?_ ?_ fun s hs => ?_
  · rw [e_bin, dv rfl, Res.bind_ok, dv rfl, Res.bind_ok]
    exact ix_tl (by rw [get_at]; rfl) (Nat.le_refl T)
  · rw [List.getElem?_append_left (List.getElem?_eq_some_iff.mp ht).1]
    exact ht
  · obtain ⟨g, es⟩ := all T (Nat.le_refl T) s hs
    refine GH.call1 (dv rfl) ?_
    have := text_b kk s g (by omega) (k := k) (h := h ++ [.lst ((tl w ls T).map sv)])
    rwa [es] at this
end L02
set_option Elab.async false
set_option linter.all false
set_option maxRecDepth 100000
set_option maxHeartbeats 1000000
set_option autoImplicit false
namespace L02
open GH PySem
variable [TheWorld]
/-! pairs of a text and a shape, sorted -/
def pairV (s : Sh) : Val := .tup [.str s.txt, s.val]
theorem alike_sh {n : Int} {ls : List Tx} : ∀ {s u : Sh}, s.ok n ls → u.ok n ls → PySem.W.alike (pd s.val) (pd u.val) = true
  | .nil, u, _, _ => by cases u <;> rfl
  | .one l c, u, gs, gu => by
    cases u with
    | nil => rfl
    | one l2 c2 =>
      have := alike_sh gs.2.2 gu.2.2
      simp only [Sh.val, pd, pds, PySem.W.alike, PySem.W.alikeAll, this, Bool.and_self]
    | two l2 a b => exact absurd (gs.1.symm.trans gu.1) (by decide)
  | .two l a b, u, gs, gu => by
    cases u with
    | nil => rfl
    | one l2 c2 => exact absurd (gu.1.symm.trans gs.1) (by decide)
    | two l2 a2 b2 =>
      have h1 := alike_sh gs.2.2.1 gu.2.2.1
      have h2 := alike_sh gs.2.2.2 gu.2.2.2
      simp only [Sh.val, pd, pds, PySem.W.alike, PySem.W.alikeAll, h1, h2, Bool.and_self]
theorem sOf_inj {a b : Tx} (e : sOf a = sOf b) : a = b := by
  have := map_sOf_inj (A := [a]) (B := [b]) (by rw [List.map_cons, List.map_cons, e])
  exact (List.cons.inj this).1
theorem eqv_str {x y : Str} (h : PyData.eqv (.str x) (.str y) = true) : x = y := by
  simpa [PyData.eqv] using h
theorem lt_self (d : PyData) : PySem.W.dataLt d d = false := PyProof.Rows.lex_irrefl _
theorem le_pair {n : Int} {ls : List Tx} (kk : KOk n ls) {a b : Sh} (ga : a.ok n ls) (gb : b.ok n ls) : PySem.W.dataLe false txD a b = PySem.W.dataLe false pd (pairV a) (pairV b) := by
  show (!PySem.W.dataLt (txD b) (txD a)) = !PySem.W.dataLt (.tuple [.str (sOf b.txt), pd b.val]) (.tuple [.str (sOf a.txt), pd a.val])
  rw [PySem.W.dataLt_pair rfl (alike_sh gb ga)]
  by_cases e : b.txt = a.txt
  · obtain rfl := txt_inj kk gb ga e
    rw [lt_self, lt_self, lt_self]
    simp
  · rw [if_neg fun z => e (sOf_inj (eqv_str z))]
    rfl
theorem sortV_pair {n : Int} {ls : List Tx} (kk : KOk n ls) {L : List Sh} (hL : ∀ s ∈ L, s.ok n ls) : sortV (L.map pairV) = (srtS L).map pairV := by
  unfold sortV srtS
  exact (List.map_mergeSort (r := PySem.W.dataLe false txD) (s := PySem.W.dataLe false pd) (f := pairV) (l := L) fun a ha b hb => le_pair kk (hL a ha) (hL b hb)).symm
theorem dp_sh : ∀ s : Sh, dpV s.val ≤ s.size + 1
  | .nil => by simp [Sh.val, dpV, dpVs]
  | .one l c => by have := dp_sh c; simp only [Sh.val, dpV, dpVs, Sh.size]; omega
  | .two l a b => by have := dp_sh a; have := dp_sh b; simp only [Sh.val, dpV, dpVs, Sh.size]; omega
theorem dp_pairs {m : Nat} : ∀ {L : List Sh}, (∀ s ∈ L, s.size ≤ m) → dpVs (L.map pairV) ≤ m + 2
  | [], _ => Nat.zero_le _
  | s :: L, h => by
    have h1 := dp_pairs fun x hx => h x (List.mem_cons_of_mem _ hx)
    have h2 := h s (List.mem_cons_self ..)
    have h3 := dp_sh s
    simp only [List.map_cons, dpVs, pairV, dpV]
    omega
theorem okVs_pairs {n : Int} {ls : List Tx} (kk : KOk n ls) : ∀ {L : List Sh}, (∀ s ∈ L, s.ok n ls) → okVs (L.map pairV) = true
  | [], _ => rfl
  | s :: L, h => by
    have h1 := h s (List.mem_cons_self ..)
    have h2 := okVs_pairs kk fun x hx => h x (List.mem_cons_of_mem _ hx)
    simp only [List.map_cons, okVs, pairV, h2, Bool.and_true]
    simp only [okV.eq_def (.tup _), okVs, Sh.okv kk h1, txt_ok kk h1, Bool.and_self]
theorem sortOk_pair {n : Int} {ls : List Tx} (kk : KOk n ls) {L : List Sh} {m : Nat} (hL : ∀ s ∈ L, s.ok n ls) (hm : ∀ s ∈ L, s.size ≤ m) (h : m ≤ 100) : sortOk (L.map pairV) = true := by
  unfold sortOk
  have h3 : ((L.map pairV).all fun a => (L.map pairV).all fun b => PySem.W.alike (pd a) (pd b)) = true := by
    refine List.all_eq_true.mpr fun a ha => List.all_eq_true.mpr fun b hb => ?_
    obtain ⟨p, hp, rfl⟩ := List.mem_map.mp ha
    obtain ⟨q, hq, rfl⟩ := List.mem_map.mp hb
    have := alike_sh (hL p hp) (hL q hq)
    simp only [pairV, pd, pds, PySem.W.alike, PySem.W.alikeAll, this, Bool.and_self]
  have h5 : (L.map pairV).all isNE = true := by
    refine List.all_eq_true.mpr fun a ha => ?_
    obtain ⟨p, hp, rfl⟩ := List.mem_map.mp ha
    rfl
  have h2 := dp_pairs hm
  have h4 : decide (dpVs (L.map pairV) ≤ 190) = true := decide_eq_true (by omega)
  rw [okVs_pairs kk hL, h3, h4, h5]
  rfl
theorem vSorted_pair {n : Int} {ls : List Tx} (kk : KOk n ls) {L : List Sh} {m : Nat} (hL : ∀ s ∈ L, s.ok n ls) (hm : ∀ s ∈ L, s.size ≤ m) (h : m ≤ 100) (H : Hv) : vSorted (.lst (L.map pairV)) H = .ok (.lst ((srtS L).map pairV)) H := by
  simp [vSorted, lstOf, sortOk_pair kk hL hm h, sortV_pair kk hL]
end L02
set_option Elab.async false
set_option linter.all false
set_option maxRecDepth 100000
set_option maxHeartbeats 1000000
set_option autoImplicit false
namespace L02
open GH PySem
variable [TheWorld]
/-! all_shapes: the loops -/
section
variable {t : Tg} {b rest : Stm} {l : GH.Loc} {h h1 : Hv}
theorem for_indC {α : Type} (V : α → Val) (R : List α → GH.Loc → Hv → Prop) {s : Src} (so : ∀ p l h, R p l h → srcOk s h) : ∀ (L pre : List α) (l : GH.Loc) (h : Hv), R pre l h →
    (∀ p x q l h, pre ++ L = p ++ x :: q → R p l h → ∃ l1 h1 l2 h2, t (V x) l h = .ok l1 h1 ∧ (b l1 h1 = .nx l2 h2 ∨ b l1 h1 = .ct l2 h2) ∧ R (p ++ [x]) l2 h2) → ∃ l' h', forL t b s (L.map V) l h = .nx l' h' ∧ R (pre ++ L) l' h'
  | [], pre, l, h, r, _ => ⟨l, h, by simp only [List.map_nil, forL, so _ _ _ r, if_true], by rw [List.append_nil]; exact r⟩
  | x :: L, pre, l, h, r, step => by
    obtain ⟨l1, h1, l2, h2, e1, e2, r2⟩ := step pre x L l h rfl r
    obtain ⟨l', h', e3, r3⟩ := for_indC V R so L (pre ++ [x]) l2 h2 r2 fun p y q l h e => step p y q l h (by rw [← e]; simp)
    refine ⟨l', h', ?_, by simpa using r3⟩
    rcases e2 with e2 | e2
    · simp only [List.map_cons, forL, so _ _ _ r, if_true, e1, e2, SRes.turn_nx]
      simpa using e3
    · simp only [List.map_cons, forL, so _ _ _ r, if_true, e1, e2, SRes.turn_ct]
      simpa using e3
theorem ext_at {i j : Nat} {L M : List Val} {d : Den} (e : l[i]? = some (some (.ref j))) (x : h[j]? = some (.lst L)) (ed : d l h = .ok (.lst M) h) (n : L.length + M.length ≤ 16777216) : dMeth1 isLst (fun x v h => if (lstOf h v).isSome then vExtend x v h else .fail) (dVar i) d l h = .ok .non (h.set j (.lst (L ++ M))) := by
  rw [e_meth1, dv e, Res.bind_ok, if_pos (isLst_ref x), ed, Res.bind_ok]
  simp only [lstOf, Option.isSome_some, if_true]
  exact extend_ref x n
end
noncomputable abbrev xtM : Val → Val → Hv → Res Val := fun x v h => if (lstOf h v).isSome then vExtend x v h else .fail
noncomputable abbrev asF : Stm := (sSeq (sExpr (dMeth1 isLst (fun x v h => if (lstOf h v).isSome then vExtend x v h else .fail) (dVar 6) (dLc frozen [13] (iSeq (dBin vIx (dVar 2) (dBin vSub (dBin vSub (dVar 3) (dC (.int 1))) (dVar 8)))) (gName 13) dYes (dTup (dCons (dVar 7) (dCons (dVar 9) (dCons (dVar 13) dNil)))))))
    sNext)
noncomputable abbrev asL : Stm := (sSeq (sFor (iSeq (dBin vIx (dVar 2) (dVar 8))) (gName 9) asF)
    sNext)
noncomputable abbrev asB : Stm := (sSeq (sIf (dB (dBin vEq (dVar 4) (dC (.int 1)))) (sSeq (sExpr (dMeth1 isLst (fun x v h => if (lstOf h v).isSome then vExtend x v h else .fail) (dVar 6) (dLc frozen [12] (iSeq (dBin vIx (dVar 2) (dBin vSub (dVar 3) (dC (.int 1))))) (gName 12) dYes (dTup (dCons (dVar 7) (dCons (dVar 12) dNil))))))
    (sSeq sCont
    sNext)) sNext)
    (sSeq (sFor (iRange1 (dVar 3)) (gName 8) asL)
    sNext))
/-- the items of one of the lists by size -/
def Src1 (S : Val) (G : Hv) (t : Nat) (i : Nat) (L : List Sh) : Prop := ∃ v o, vIx S (.int (i : Nat)) G = .ok v G ∧ vIter v G = .ok (L.map Sh.val, o) G ∧ srcOk (L.map Sh.val, o) G
structure Srcs (S : Val) (G : List Sh → Hv) (r t w : Nat) (ls : List Tx) : Prop where
  ix : ∀ i ≤ t, ∃ v o, ∀ F, vIx S (.int (i : Nat)) (G F) = .ok v (G F) ∧ vIter v (G F) = .ok ((sl w ls i).map Sh.val, o) (G F) ∧ srcOk ((sl w ls i).map Sh.val, o) (G F)
  at_ : ∀ F, (G F)[r]? = some (.lst (F.map Sh.val))
  set : ∀ F F', (G F).set r (.lst (F'.map Sh.val)) = G F'
abbrev asV (K C S W L : Val) (t r : Nat) (lab : Val) (z8 z9 z10 z11 z12 z13 : Option Val) : GH.Loc := [some K, some C, some S, some (.int ((t : Int) + 1)), some W, some L, some (.ref r), some lab, z8, z9, z10, z11, z12, z13]
section
variable {K C S W Lb : Val} {G : List Sh → Hv} {ls : List Tx} {t r : Nat}
theorem as_first (q : Srcs S G r t 2 ls) {lab : Tx} {j : Nat} (hj : j ≤ t) {F : List Sh} (hb : F.length + ((sl 2 ls j).flatMap fun a => (sl 2 ls (t - j)).map (Sh.two lab a)).length ≤ 16777216) {o : Option Nat} (so : ∀ F, srcOk ((sl 2 ls j).map Sh.val, o) (G F)) (z9 z10 z11 z12 z13 : Option Val) :
    ∃ z9', forL (gName 9) asF ((sl 2 ls j).map Sh.val, o) ((sl 2 ls j).map Sh.val) (asV K C S W Lb t r (.str lab) (some (.int (j : Nat))) z9 z10 z11 z12 z13) (G F) = .nx (asV K C S W Lb t r (.str lab) (some (.int (j : Nat))) z9' z10 z11 z12 z13) (G (F ++ (sl 2 ls j).flatMap fun a => (sl 2 ls (t - j)).map (Sh.two lab a))) := by
  obtain ⟨l', h', e, ⟨z, rfl⟩, rfl⟩ := for_indS (t := gName 9) (b := asF) Sh.val (fun p l h => (∃ z, l = asV K C S W Lb t r (.str lab) (some (.int (j : Nat))) z z10 z11 z12 z13) ∧ h = G (F ++ p.flatMap fun a => (sl 2 ls (t - j)).map (Sh.two lab a))) (s := ((sl 2 ls j).map Sh.val, o)) (by
      rintro p l h ⟨_, rfl⟩
      exact so _) (sl 2 ls j) [] (asV K C S W Lb t r (.str lab) (some (.int (j : Nat))) z9 z10 z11 z12 z13) (G F) ⟨⟨_, rfl⟩, by rw [List.flatMap_nil, List.append_nil]⟩ (by
      rintro p x qq l h e ⟨⟨z, rfl⟩, rfl⟩
      have le := flat_le (f := fun a => (sl 2 ls (t - j)).map (Sh.two lab a)) (show sl 2 ls j = p ++ x :: qq from e)
      generalize hF : F ++ (p.flatMap fun a => (sl 2 ls (t - j)).map (Sh.two lab a)) = F1
      have lF : F1.length = F.length + (p.flatMap fun a => (sl 2 ls (t - j)).map (Sh.two lab a)).length := by rw [← hF, List.length_append]
      refine ⟨asV K C S W Lb t r (.str lab) (some (.int (j : Nat))) (some x.val) z10 z11 z12 z13, G F1, asV K C S W Lb t r (.str lab) (some (.int (j : Nat))) (some x.val) z10 z11 z12 z13, G (F1 ++ (sl 2 ls (t - j)).map (Sh.two lab x)), rfl, ?_, ⟨_, rfl⟩, by rw [flat_snoc, ← List.append_assoc, hF]⟩
      obtain ⟨v, o2, q2⟩ := q.ix (t - j) (by omega)
      obtain ⟨i1, i2, i3⟩ := q2 F1
      have c := comp_two (i := iSeq (dBin vIx (dVar 2) (dBin vSub (dBin vSub (dVar 3) (dC (.int 1))) (dVar 8)))) (l := asV K C S W Lb t r (.str lab) (some (.int (j : Nat))) (some x.val) z10 z11 z12 z13) (h := G F1) (lab := lab) (a := x) (li := 7) (la := 9) (lb := 13) (o := o2) (B := sl 2 ls (t - j)) (by
        rw [e_iseq, e_bin, dv rfl, Res.bind_ok, e_bin, e_bin, dv rfl, Res.bind_ok, e_c, Res.bind_ok, vSub_int, Res.bind_ok, dv rfl, Res.bind_ok, vSub_int, Res.bind_ok, show (t : Int) + 1 - 1 - (j : Nat) = ((t - j : Nat) : Int) by omega, i1, Res.bind_ok, i2]) i3 rfl rfl (by decide) (by decide) (by simp)
      have x1 := ext_at (i := 6) (j := r) (l := asV K C S W Lb t r (.str lab) (some (.int (j : Nat))) (some x.val) z10 z11 z12 z13) rfl (q.at_ F1) c (by simp only [List.length_map] at le ⊢; omega)
      rw [← List.map_append, q.set] at x1
      unfold asF
      rw [GH.expr_eq x1, e_next])
  exact ⟨z, e⟩
theorem as_left (q : Srcs S G r t 2 ls) {lab : Tx} {F : List Sh} (hb : F.length + (nxtL 2 (tl 2 ls t) lab).length ≤ 16777216) (z8 z9 z10 z11 z12 z13 : Option Val) :
    ∃ z8' z9', forL (gName 8) asL ((List.range (t + 1)).map fun j : Nat => Val.int j, none) ((List.range (t + 1)).map fun j : Nat => Val.int j) (asV K C S W Lb t r (.str lab) z8 z9 z10 z11 z12 z13) (G F) = .nx (asV K C S W Lb t r (.str lab) z8' z9' z10 z11 z12 z13) (G (F ++ nxtL 2 (tl 2 ls t) lab)) := by
  rw [nxt_two] at hb ⊢
  obtain ⟨l', h', e, ⟨z, y, rfl⟩, rfl⟩ := for_ind (t := gName 8) (b := asL) (it := (List.range (t + 1)).map fun j : Nat => Val.int j) (fun j : Nat => Val.int j) (fun p l h => (∃ z y, l = asV K C S W Lb t r (.str lab) z y z10 z11 z12 z13) ∧ h = G (F ++ p.flatMap fun j => (sl 2 ls j).flatMap fun a => (sl 2 ls (t - j)).map (Sh.two lab a))) (List.range (t + 1)) [] (asV K C S W Lb t r (.str lab) z8 z9 z10 z11 z12 z13) (G F) ⟨⟨_, _, rfl⟩, by rw [List.flatMap_nil, List.append_nil]⟩ (by
      rintro p j qq l h e ⟨⟨z, y, rfl⟩, rfl⟩
      have le := flat_le (f := fun j => (sl 2 ls j).flatMap fun a => (sl 2 ls (t - j)).map (Sh.two lab a)) (show List.range (t + 1) = p ++ j :: qq from e)
      obtain ⟨_, hj⟩ := range_at (show List.range (t + 1) = p ++ j :: qq from e)
      generalize hF : F ++ (p.flatMap fun j => (sl 2 ls j).flatMap fun a => (sl 2 ls (t - j)).map (Sh.two lab a)) = F1
      have lF : F1.length = F.length + (p.flatMap fun j => (sl 2 ls j).flatMap fun a => (sl 2 ls (t - j)).map (Sh.two lab a)).length := by rw [← hF, List.length_append]
      obtain ⟨v, o, q2⟩ := q.ix j (by omega)
      obtain ⟨z', e1⟩ := as_first (K := K) (C := C) (W := W) (Lb := Lb) q (lab := lab) (j := j) (by omega) (F := F1) (by omega) (o := o) (fun F => (q2 F).2.2) y z10 z11 z12 z13
      refine ⟨asV K C S W Lb t r (.str lab) (some (.int (j : Nat))) y z10 z11 z12 z13, G F1, _, _, rfl, ?_, ⟨some (.int (j : Nat)), z', rfl⟩, by rw [flat_snoc, ← List.append_assoc, hF]⟩
      unfold asL
      rw [for_eqS (s := ((sl 2 ls j).map Sh.val, o)) (h1 := G F1) (by rw [e_iseq, e_bin, dv rfl, Res.bind_ok, dv rfl, Res.bind_ok, (q2 F1).1, Res.bind_ok, (q2 F1).2.1]), e1, SRes.andThen_nx, e_next])
  exact ⟨z, y, e⟩
end
section
variable {K C S Lb : Val} {G : List Sh → Hv} {ls : List Tx} {t r w : Nat}
theorem as_lab (hw : w = 1 ∨ w = 2) (q : Srcs S G r t w ls) (ht : t ≤ 30) (hb : (sl w ls (t + 1)).length ≤ 16777216) (z7 z8 z9 z10 z11 z12 z13 : Option Val) :
    ∃ z7' z8' z9', forL (gName 7) asB (ls.map .str, none) (ls.map .str) [some K, some C, some S, some (.int ((t : Int) + 1)), some (.int (w : Nat)), some Lb, some (.ref r), z7, z8, z9, z10, z11, z12, z13] (G []) = .nx [some K, some C, some S, some (.int ((t : Int) + 1)), some (.int (w : Nat)), some Lb, some (.ref r), z7', z8', z9', z10, z11, z12, z13] (G (sl w ls (t + 1))) := by
  rw [sl_succ] at hb ⊢
  obtain ⟨l', h', e, ⟨x, y, z, rfl⟩, rfl⟩ := for_indC (t := gName 7) (b := asB) Val.str (fun p l h => (∃ x y z, l = [some K, some C, some S, some (.int ((t : Int) + 1)), some (.int (w : Nat)), some Lb, some (.ref r), x, y, z, z10, z11, z12, z13]) ∧ h = G (p.flatMap (nxtL w (tl w ls t)))) (s := (ls.map .str, none)) (fun _ _ _ _ => trivial) ls [] [some K, some C, some S, some (.int ((t : Int) + 1)), some (.int (w : Nat)), some Lb, some (.ref r), z7, z8, z9, z10, z11, z12, z13] (G []) ⟨⟨_, _, _, rfl⟩, rfl⟩ (by
      rintro p lab qq l h e ⟨⟨x, y, z, rfl⟩, rfl⟩
      have le := flat_le (f := nxtL w (tl w ls t)) (show ls = p ++ lab :: qq from e)
      generalize hF : p.flatMap (nxtL w (tl w ls t)) = F1
      rw [hF] at le
      have e1 : dB (dBin vEq (dVar 4) (dC (.int 1))) (asV K C S (.int (w : Nat)) Lb t r (.str lab) y z z10 z11 z12 z13) (G F1) = .ok (decide (w = 1)) (G F1) := by
        rw [e_b, e_bin, dv rfl, Res.bind_ok, e_c, Res.bind_ok, vEq_int, resB_bl]
        congr 1
        exact decide_eq_decide.mpr (by omega)
      rcases hw with rfl | rfl
      · refine ⟨asV K C S (.int (1 : Nat)) Lb t r (.str lab) y z z10 z11 z12 z13, G F1, asV K C S (.int (1 : Nat)) Lb t r (.str lab) y z z10 z11 z12 z13, G (F1 ++ nxtL 1 (tl 1 ls t) lab), rfl, .inr ?_, ⟨_, _, _, rfl⟩, by rw [flat_snoc, hF]⟩
        unfold asB
        refine (iff_t e1).trans ?_
        rw [nxt_one] at le ⊢
        obtain ⟨v, o2, q2⟩ := q.ix t (Nat.le_refl t)
        obtain ⟨i1, i2, i3⟩ := q2 F1
        have c := comp_one (i := iSeq (dBin vIx (dVar 2) (dBin vSub (dVar 3) (dC (.int 1))))) (l := asV K C S (.int (1 : Nat)) Lb t r (.str lab) y z z10 z11 z12 z13) (h := G F1) (lab := lab) (li := 7) (lb := 12) (o := o2) (B := sl 1 ls t) (by
          rw [e_iseq, e_bin, dv rfl, Res.bind_ok, e_bin, dv rfl, Res.bind_ok, e_c, Res.bind_ok, vSub_int, Res.bind_ok, show (t : Int) + 1 - 1 = (t : Nat) by omega, i1, Res.bind_ok, i2]) i3 rfl (by decide) (by simp)
        have x1 := ext_at (i := 6) (j := r) (l := asV K C S (.int (1 : Nat)) Lb t r (.str lab) y z z10 z11 z12 z13) rfl (q.at_ F1) c (by simp only [List.length_map] at le ⊢; omega)
        rw [← List.map_append, q.set] at x1
        rw [GH.expr_eq x1]
        rfl
      · obtain ⟨y', z', e2⟩ := as_left (K := K) (C := C) (W := .int (2 : Nat)) (Lb := Lb) q (lab := lab) (F := F1) (by omega) y z z10 z11 z12 z13
        refine ⟨asV K C S (.int (2 : Nat)) Lb t r (.str lab) y z z10 z11 z12 z13, G F1, asV K C S (.int (2 : Nat)) Lb t r (.str lab) y' z' z10 z11 z12 z13, G (F1 ++ nxtL 2 (tl 2 ls t) lab), rfl, .inl ?_, ⟨_, _, _, rfl⟩, by rw [flat_snoc, hF]⟩
        unfold asB
        refine (iff_f e1).trans ?_
        rw [e_next, SRes.andThen_nx]
        have er : iRange1 (dVar 3) (asV K C S (.int (2 : Nat)) Lb t r (.str lab) y z z10 z11 z12 z13) (G F1) = .ok ((List.range (t + 1)).map fun j : Nat => Val.int j, none) (G F1) := by
          rw [e_rng1, dv rfl, Res.bind_ok, show (t : Int) + 1 = ((t + 1 : Nat) : Int) by omega]
          exact rng1_eq (by omega)
        rw [for_eq er, e2, SRes.andThen_nx, e_next])
  exact ⟨x, y, z, e⟩
end
end L02
set_option Elab.async false
set_option linter.all false
set_option maxRecDepth 100000
set_option maxHeartbeats 1000000
set_option autoImplicit false
namespace L02
open GH PySem
variable [TheWorld]
/-! all_shapes -/
def bl (b t : Nat) : List Val := (List.range (t + 1)).map fun j => if j = 0 then sv [.nil] else .ref (b + j)
def fd (w : Nat) (ls : List Tx) (t : Nat) : Hv := (List.range t).map fun j => Ob.lst ((sl w ls (j + 1)).map Sh.val)
def hp (h : Hv) (w : Nat) (ls : List Tx) (t : Nat) : Hv := h ++ (Ob.lst (bl h.length t) :: fd w ls t)
def hg (h : Hv) (w : Nat) (ls : List Tx) (t : Nat) (F : List Sh) : Hv := h ++ (Ob.lst (bl h.length t) :: (fd w ls t ++ [Ob.lst (F.map Sh.val)]))
theorem bl_len (b t : Nat) : (bl b t).length = t + 1 := by simp [bl]
theorem fd_len (w : Nat) (ls : List Tx) (t : Nat) : List.length (fd w ls t) = t := by simp [fd]
theorem bl_at {b t j : Nat} (hj : j ≤ t) : (bl b t)[j]? = some (if j = 0 then sv [.nil] else .ref (b + j)) := by
  unfold bl
  rw [List.getElem?_map, List.getElem?_range (by omega)]
  rfl
theorem fd_at {w : Nat} {ls : List Tx} {t j : Nat} (hj : j < t) : (fd w ls t)[j]? = some (Ob.lst ((sl w ls (j + 1)).map Sh.val)) := by
  unfold fd
  rw [List.getElem?_map, List.getElem?_range hj]
  rfl
theorem bl_succ (b t : Nat) : bl b (t + 1) = bl b t ++ [.ref (b + (t + 1))] := by
  unfold bl
  rw [List.range_succ, List.map_append, List.map_singleton, if_neg (by omega)]
theorem fd_succ (w : Nat) (ls : List Tx) (t : Nat) : fd w ls (t + 1) = fd w ls t ++ [Ob.lst ((sl w ls (t + 1)).map Sh.val)] := by
  unfold fd
  rw [List.range_succ, List.map_append, List.map_singleton]
theorem ix_bl {b t j i : Nat} {h : Hv} {v : Val} (hv : h[i]? = some (.lst (bl b t))) (hj : j ≤ t) (e : (bl b t)[j]? = some v) : vIx (.ref i) (.int (j : Nat)) h = .ok v h := by
  have : nth (bl b t) (j : Int) = some v := nth_nat e
  simp [vIx, seqOf, lstOf, hv, this]
section
variable {h : Hv} {w : Nat} {ls : List Tx} {t : Nat}
theorem hg_srcs : Srcs (.ref (h.length + 0)) (hg h w ls t) (h.length + (t + 1)) t w ls where
  ix := fun i hi => by
    have hb : ∀ F, (hg h w ls t F)[h.length + 0]? = some (.lst (bl h.length t)) := fun F => by unfold hg; rw [get_at]; rfl
    cases i with
    | zero => exact ⟨sv [.nil], none, fun F => ⟨ix_bl (hb F) hi (bl_at hi), vIter_lst _ _, trivial⟩⟩
    | succ i =>
      have ha : ∀ F, (hg h w ls t F)[h.length + (i + 1)]? = some (Ob.lst ((sl w ls (i + 1)).map Sh.val)) := fun F => by
        unfold hg
        rw [get_at, List.getElem?_cons_succ, List.getElem?_append_left (by rw [fd_len]; omega)]
        exact fd_at (by omega)
      refine ⟨.ref (h.length + (i + 1)), some (h.length + (i + 1)), fun F => ⟨ix_bl (hb F) hi (by rw [bl_at hi, if_neg (by omega)]), ?_, ha F⟩⟩
      simp only [vIter, ha F]
  at_ := fun F => by
    unfold hg
    rw [get_at, List.getElem?_cons_succ, List.getElem?_append_right (by rw [fd_len]; omega), fd_len, Nat.sub_self]
    rfl
  set := fun F F' => by
    unfold hg
    rw [set_at, List.set_cons_succ]
    congr 2
    show List.set (fd w ls t ++ [Ob.lst (F.map Sh.val)] : List Ob) t _ = (fd w ls t ++ _ : List Ob)
    rw [List.set_append, if_neg (by have := fd_len w ls t; omega), fd_len, Nat.sub_self]
    rfl
theorem hg_nil : hp h w ls t ++ [Ob.lst []] = hg h w ls t [] := by
  unfold hp hg
  rw [List.append_assoc]
  rfl
theorem hp_len : List.length (hp h w ls t) = h.length + (t + 1) := by
  have := fd_len w ls t
  unfold hp
  show List.length (h ++ (Ob.lst (bl h.length t) :: fd w ls t) : List Ob) = _
  rw [List.length_append, List.length_cons, this]
theorem hg_done : (hg h w ls t (sl w ls (t + 1))).set (h.length + 0) (.lst (bl h.length t ++ [.ref (h.length + (t + 1))])) = hp h w ls (t + 1) := by
  unfold hp hg
  rw [set_at, List.set_cons_zero, ← bl_succ, fd_succ]
theorem hp_zero : hp h w ls 0 = h ++ [Ob.lst [sv [.nil]]] := rfl
end
noncomputable abbrev asT : Stm := (sSeq (sAsg (dLstM dNil) (gName 6))
    (sSeq (sFor (iSeq (dVar 5)) (gName 7) asB)
    (sSeq (sExpr (dMeth1 isLst vAppend (dVar 2) (dVar 6)))
    sNext)))
theorem as_of {k : Nat} {a b : Val} {h g : Hv} {v : Val} (q : runDef 14 (b_all_shapes (lev D k)) [a, b] h = .ok v (h ++ g)) (o : okV v = true) : lev D (k + 1) 3 [a, b] h = .ok v h := tidy_okE (r := runDef 14 (b_all_shapes (lev D k)) [a, b] h) q o
theorem as_exc {k : Nat} {a b : Val} {h : Hv} {C : Tx} (q : runDef 14 (b_all_shapes (lev D k)) [a, b] h = .exc ⟨C, []⟩ h) : lev D (k + 1) 3 [a, b] h = .exc ⟨C, []⟩ h := tidy_excE (r := runDef 14 (b_all_shapes (lev D k)) [a, b] h) (g := []) (by rw [List.append_nil]; exact q)
theorem ix_cl {w k t j : Nat} {h : Hv} (hj : j ≤ t) : vIx (.lst ((cl w k t).map iN)) (.int (j : Nat)) h = .ok (.int (num w k j : Nat)) h := by
  have hl : j < (cl w k t).length := by rw [cl_len]; omega
  have e : (cl w k t)[j]? = some (num w k j) := by
    rw [List.getElem?_eq_getElem hl, ← cl_num w k hj, List.getD_eq_getElem?_getD, List.getElem?_eq_getElem hl]
    rfl
  exact vIx_lst (nth_nat (by rw [List.getElem?_map, e]; rfl))
abbrev TL : Tx := [84, 111, 111, 76, 97, 114, 103, 101]
theorem as_head {n : Int} {ls : List Tx} (kk : KOk n ls) {w : Nat} (hw : w = 1 ∨ w = 2) (en : n = (w : Nat)) {T : Nat} (hT : T ≤ 30) {k : Nat} {h : Hv} {l : GH.Loc} (e0 : l[0]? = some (some (kv n ls))) (e1 : l[1]? = some (some (.int (T : Nat)))) (rest : Stm) :
    sSeq (sExpr (dCall (lev D (k + 1) 0) (dCons (dVar 0) dNil))) (sSeq (sIf (dB (dBin vGt (dBin vIx (dCall (lev D (k + 1) 2) (dCons (dVar 0) (dCons (dVar 1) dNil))) (dVar 1)) (dC (.int 20000)))) (sSeq (sRaise TL) sNext) sNext) rest) l h = if decide (20000 < num w ls.length T) = true then .exc ⟨TL, []⟩ l h else rest l h := by
  rw [GH.expr_eq (GH.call1 (dv e0) (kind_a kk))]
  refine raise_if ?_
  rw [e_b, e_bin, e_bin, GH.callS (dv e0) (dv e1) (sc_eq kk hw en hT), Res.bind_ok, dv e1, Res.bind_ok, ix_cl (Nat.le_refl T), Res.bind_ok, e_c, Res.bind_ok, vGt_int, resB_bl]
  congr 1
  exact decide_eq_decide.mpr (by omega)
theorem as_ex {n : Int} {ls : List Tx} (kk : KOk n ls) {w : Nat} (hw : w = 1 ∨ w = 2) (en : n = (w : Nat)) {T : Nat} (hT : T ≤ 30) (hn : 20000 < num w ls.length T) {k : Nat} {h : Hv} : lev D (k + 2) 3 [kv n ls, .int (T : Nat)] h = .exc ⟨TL, []⟩ h := by
  have q := as_head (k := k) (h := h) (l := [some (kv n ls), some (.int (T : Nat)), none, none, none, none, none, none, none, none, none, none, none, none]) kk hw en hT rfl rfl
  have p : b_all_shapes (lev D (k + 1)) [some (kv n ls), some (.int (T : Nat)), none, none, none, none, none, none, none, none, none, none, none, none] h = .exc ⟨TL, []⟩ [some (kv n ls), some (.int (T : Nat)), none, none, none, none, none, none, none, none, none, none, none, none] h := by
    unfold b_all_shapes
    rw [q, if_pos (decide_eq_true hn)]
  exact as_exc (GH.run_exc p)
theorem as_eq {n : Int} {ls : List Tx} (kk : KOk n ls) {w : Nat} (hw : w = 1 ∨ w = 2) (en : n = (w : Nat)) {T : Nat} (hT : T ≤ 30) (hn : num w ls.length T ≤ 300) {k : Nat} {h : Hv} : lev D (k + 2) 3 [kv n ls, .int (T : Nat)] h = .ok (sv (srtS (sl w ls T))) h := by
  have kl := kk.len
  have all := fun j (hj : j ≤ T) => sl_ok (n := n) (ls := ls) hw en j j (Nat.le_refl j)
  have q0 := as_head (k := k) (h := h) (l := [some (kv n ls), some (.int (T : Nat)), none, none, none, none, none, none, none, none, none, none, none, none]) kk hw en hT rfl rfl
  suffices q : b_all_shapes (lev D (k + 1)) [some (kv n ls), some (.int (T : Nat)), none, none, none, none, none, none, none, none, none, none, none, none] h = .rt (sv (srtS (sl w ls T))) (hp h w ls T) by
    exact as_of (GH.run_rt q) (okVs_sv kk fun s hs => (all T (Nat.le_refl T) s (srtS_mem.mp hs)).1)
  unfold b_all_shapes
  rw [q0, if_neg (by simp; omega)]
  rw [asg2_eq (v := kv n ls) (h1 := h) (dv rfl) (show gTup 2 _ (kv n ls) _ h = .ok [some (kv n ls), some (.int (T : Nat)), none, none, some (.int n), some (.tup (ls.map .str)), none, none, none, none, none, none, none, none] h from rfl)]
  rw [en]
  generalize kv ((w : Nat) : Int) ls = K
  rw [set_to (v := .ref (h.length + 0)) (h1 := hp h w ls 0) (l1 := [some K, some (.int (T : Nat)), some (.ref (h.length + 0)), none, some (.int (w : Nat)), some (.tup (ls.map .str)), none, none, none, none, none, none, none, none]) (by
    rw [e_lstM, e_cons, e_lst, e_cons, e_tup, e_nil, Res.bind_ok, mkT_ok (by simp), Res.bind_ok, e_nil, Res.bind_ok, Res.bind_ok, mkL_ok (by simp), Res.bind_ok, e_nil, Res.bind_ok, Res.bind_ok, mkR_ok (by simp)]; rfl) rfl]
  rw [for_eq (it := (List.range T).map fun i : Nat => Val.int ((i : Int) + 1)) (h1 := hp h w ls 0) (by
    rw [e_rng2, e_c, Res.bind_ok, e_bin, dv rfl, Res.bind_ok, e_c, Res.bind_ok, vAdd_int, Res.bind_ok]
    exact range_one T hT _)]
  obtain ⟨l', h', e, ⟨x, z6, z7, z8, z9, z10, z11, z12, z13, rfl⟩, rfl⟩ := for_ind (t := gName 3) (b := asT) (it := (List.range T).map fun i : Nat => Val.int ((i : Int) + 1)) (fun i : Nat => Val.int ((i : Int) + 1))
    (fun pre l h' => (∃ x z6 z7 z8 z9 z10 z11 z12 z13, l = [some K, some (.int (T : Nat)), some (.ref (h.length + 0)), x, some (.int (w : Nat)), some (.tup (ls.map .str)), z6, z7, z8, z9, z10, z11, z12, z13]) ∧ h' = hp h w ls pre.length)
    (List.range T) [] [some K, some (.int (T : Nat)), some (.ref (h.length + 0)), none, some (.int (w : Nat)), some (.tup (ls.map .str)), none, none, none, none, none, none, none, none] (hp h w ls 0) ⟨⟨_, _, _, _, _, _, _, _, _, rfl⟩, rfl⟩ (by
      rintro pre t q l h0 e ⟨⟨x, z6, z7, z8, z9, z10, z11, z12, z13, rfl⟩, rfl⟩
      obtain ⟨et, lt⟩ := range_at (show List.range T = pre ++ t :: q from e)
      subst et
      have hr : (hg h w ls pre.length (sl w ls (pre.length + 1)))[h.length + 0]? = some (.lst (bl h.length pre.length)) := by unfold hg; rw [get_at]; rfl
      have sz := sl_le (ls := ls) hw (by omega) (show pre.length + 1 ≤ T by omega) hn
      have ll : (bl h.length pre.length).length < 16777216 := by rw [bl_len]; omega
      obtain ⟨y7, y8, y9, e2⟩ := as_lab (K := K) (C := .int (T : Nat)) (S := .ref (h.length + 0)) (Lb := .tup (ls.map .str)) hw (hg_srcs (h := h) (w := w) (ls := ls) (t := pre.length)) (by omega) (by omega) z7 z8 z9 z10 z11 z12 z13
      refine ⟨[some K, some (.int (T : Nat)), some (.ref (h.length + 0)), some (.int ((pre.length : Int) + 1)), some (.int (w : Nat)), some (.tup (ls.map .str)), z6, z7, z8, z9, z10, z11, z12, z13], hp h w ls pre.length, [some K, some (.int (T : Nat)), some (.ref (h.length + 0)), some (.int ((pre.length : Int) + 1)), some (.int (w : Nat)), some (.tup (ls.map .str)), some (.ref (h.length + (pre.length + 1))), y7, y8, y9, z10, z11, z12, z13], hp h w ls (pre.length + 1), rfl, ?_, ⟨_, _, _, _, _, _, _, _, _, rfl⟩, by rw [List.length_append]; rfl⟩
      unfold asT
      rw [set_to (i := 6) (v := .ref (h.length + (pre.length + 1))) (h1 := hg h w ls pre.length []) (l1 := [some K, some (.int (T : Nat)), some (.ref (h.length + 0)), some (.int ((pre.length : Int) + 1)), some (.int (w : Nat)), some (.tup (ls.map .str)), some (.ref (h.length + (pre.length + 1))), z7, z8, z9, z10, z11, z12, z13]) (by rw [e_lstM, e_nil, Res.bind_ok, mkR_ok (by simp), hp_len, hg_nil]) rfl]
      rw [for_eq (it := ls.map .str) (h1 := hg h w ls pre.length []) (by rw [e_iseq, dv rfl, Res.bind_ok, vIter_tup]), e2, SRes.andThen_nx]
      rw [GH.expr_eq (GH.app_at (j := h.length + 0) (v := .ref (h.length + (pre.length + 1))) rfl hr (dv rfl) ll), hg_done, e_next])
  refine (congrArg (fun z : SRes => z.andThen _) e).trans ?_
  rw [SRes.andThen_nx, List.nil_append, List.length_range]
  refine ret_eq ?_
  generalize hG : hp h w ls T = G
  have src : ∃ v o, vIx (.ref (h.length + 0)) (.int (T : Nat)) G = .ok v G ∧ vIter v G = .ok ((sl w ls T).map Sh.val, o) G ∧ srcOk ((sl w ls T).map Sh.val, o) G := by
    have hb : G[h.length + 0]? = some (.lst (bl h.length T)) := by rw [← hG]; unfold hp; rw [get_at]; rfl
    cases T with
    | zero => exact ⟨sv [.nil], none, ix_bl hb (Nat.le_refl _) (bl_at (Nat.le_refl _)), vIter_lst _ _, trivial⟩
    | succ i =>
      have ha : G[h.length + (i + 1)]? = some (Ob.lst ((sl w ls (i + 1)).map Sh.val)) := by
        rw [← hG]
        unfold hp
        rw [get_at, List.getElem?_cons_succ]
        exact fd_at (by omega)
      refine ⟨.ref (h.length + (i + 1)), some (h.length + (i + 1)), ix_bl hb (Nat.le_refl _) (by rw [bl_at (Nat.le_refl _), if_neg (by omega)]), ?_, ha⟩
      simp only [vIter, ha]
  obtain ⟨v, o, i1, i2, i3⟩ := src
  have c1 := dlc_eqS (t := gName 11) (vs := [11]) (e := dTup (dCons (dCall (lev D (k + 1) 1) (dCons (dVar 11) dNil)) (dCons (dVar 11) dNil))) (di := iSeq (dBin vIx (dVar 2) (dVar 1))) (l := wipeL [some K, some (.int (T : Nat)), some (.ref (h.length + 0)), x, some (.int (w : Nat)), some (.tup (ls.map .str)), z6, z7, z8, z9, z10, z11, z12, z13] []) (h := G) Sh.val pairV (sl w ls T) (o := o) (by
    rw [e_iseq, e_bin, dv rfl, Res.bind_ok, dv rfl, Res.bind_ok, i1, Res.bind_ok, i2]) i3 fun p hp => by
      obtain ⟨g, es⟩ := all T (Nat.le_refl T) p hp
      refine ⟨_, rfl, ?_⟩
      rw [e_tup, e_cons, GH.call1 (dv rfl) (write_a kk g (by omega)), Res.bind_ok, e_cons, dv rfl, Res.bind_ok, e_nil, Res.bind_ok, Res.bind_ok, Res.bind_ok, mkT_ok (by simp)]
      rfl
  have c2 : dFn vSorted (dLc frozen [11] (iSeq (dBin vIx (dVar 2) (dVar 1))) (gName 11) dYes (dTup (dCons (dCall (lev D (k + 1) 1) (dCons (dVar 11) dNil)) (dCons (dVar 11) dNil)))) [some K, some (.int (T : Nat)), some (.ref (h.length + 0)), x, some (.int (w : Nat)), some (.tup (ls.map .str)), z6, z7, z8, z9, z10, z11, z12, z13] G = .ok (.lst ((srtS (sl w ls T)).map pairV)) G := by
    rw [e_fn]
    refine (congrArg (fun z : Res Val => z.bind vSorted) c1).trans ?_
    rw [Res.bind_ok]
    exact vSorted_pair kk (fun s hs => (all T (Nat.le_refl T) s hs).1) (m := T) (fun s hs => by rw [(all T (Nat.le_refl T) s hs).2]; exact Nat.le_refl T) (by omega) G
  refine dlc_eq pairV Sh.val (srtS (sl w ls T)) (by rw [e_iseq, c2, Res.bind_ok, vIter_lst]) fun p hp => ⟨_, rfl, dv rfl⟩
end L02
set_option Elab.async false
set_option linter.all false
set_option maxRecDepth 100000
set_option maxHeartbeats 1000000
set_option autoImplicit false
namespace L02
open GH PySem
variable [TheWorld]
/-! the law -/
theorem pl_sh : ∀ (s : Sh) (d : Nat), s.size ≤ d → Pl (d + 1) s.val
  | .nil, d, _ => ⟨by simp, fun v h => by cases h⟩
  | .one l c, d, h => by
    simp only [Sh.size] at h
    obtain ⟨e, rfl⟩ : ∃ e, d = e + 1 := ⟨d - 1, by omega⟩
    have := pl_sh c e (by omega)
    refine ⟨by simp, fun v hv => ?_⟩
    simp only [List.mem_cons, List.mem_nil_iff, or_false] at hv
    rcases hv with rfl | rfl
    · trivial
    · exact this
  | .two l a b, d, h => by
    simp only [Sh.size] at h
    obtain ⟨e, rfl⟩ : ∃ e, d = e + 1 := ⟨d - 1, by omega⟩
    have h1 := pl_sh a e (by omega)
    have h2 := pl_sh b e (by omega)
    refine ⟨by simp, fun v hv => ?_⟩
    simp only [List.mem_cons, List.mem_nil_iff, or_false] at hv
    rcases hv with rfl | rfl | rfl
    · trivial
    · exact h1
    · exact h2
theorem pl_sv {L : List Sh} {d : Nat} (hl : L.length ≤ 16777216) (h : ∀ s ∈ L, s.size ≤ d) : Pl (d + 2) (sv L) := by
  refine ⟨by rw [List.length_map]; exact hl, fun v hv => ?_⟩
  obtain ⟨s, hs, rfl⟩ := List.mem_map.mp hv
  exact pl_sh s d (h s hs)
abbrev LW : List Nat := [95, 108, 97, 119, 95, 97, 108, 108]
theorem tape_s {ns : List Int} {s : Val} (hs : s = .fz (ns.map .int) ∨ s = .lst (ns.map .int)) {k : Nat} {h : Hv} {P : Val → Hv → Prop} (q : ∀ o, TapeOb o → P (.ref h.length) (h ++ [o])) : ok (lev D (k + 1) 4 [s] h) P := by
  rcases hs with rfl | rfl
  · exact tape_sp q
  · exact tape_spL q
section
variable {n : Int} {ls : List Tx} {w T k : Nat} {o : Ob}
noncomputable abbrev lwR (Γ : Gam) : Stm := (sSeq (sIf (dB (dChain vLt vLe (dC (.int 300)) (dVar 4) (dC (.int 20000)))) (sSeq (sRet (dC (.bl true)))
    sNext) sNext)
    (sSeq (sTry [([83, 97, 121, 69, 114, 114, 111, 114], false), ([73, 110, 118, 97, 108, 105, 100, 75, 105, 110, 100], false), ([84, 111, 111, 76, 97, 114, 103, 101], true)] (sSeq (sAsg (dCall (Γ 3) (dCons (dVar 2) (dCons (dVar 3) dNil))) (gName 5))
    sNext) (sSeq (sRet (dBin vGt (dVar 4) (dC (.int 20000))))
    sNext))
    (sSeq (sRet (dAndV (dBin vLe (dVar 4) (dC (.int 300))) (dCall (Γ 8) (dCons (dVar 5) (dCons (dCall (Γ 11) (dCons (dVar 2) (dCons (dVar 3) dNil))) dNil)))))
    sNext)))
theorem lw_rest (kk : KOk n ls) (hw : w = 1 ∨ w = 2) (en : n = (w : Nat)) (hT : T ≤ 30) (s : Val) : lwR (lev D (k + 70)) [some s, some (.ref 1), some (kv n ls), some (.int (T : Nat)), some (.int (num w ls.length T : Nat)), none] [.tbl LW, o] = .rt (.bl true) [.tbl LW, o] := by
  have all := sl_ok (n := n) (ls := ls) hw en T T (Nat.le_refl T)
  generalize hN : num w ls.length T = N
  by_cases c1 : 300 < N ∧ N ≤ 20000
  · have ec : dB (dChain vLt vLe (dC (.int 300)) (dVar 4) (dC (.int 20000))) [some s, some (.ref 1), some (kv n ls), some (.int (T : Nat)), some (.int (N : Nat)), none] [.tbl LW, o] = .ok true [.tbl LW, o] := by
      rw [e_b, e_chain, e_c, Res.bind_ok, dv rfl, Res.bind_ok, vLt_int, Res.bind_ok, decide_eq_true (by omega)]
      dsimp only
      rw [e_c, Res.bind_ok, vLe_int, decide_eq_true (by omega), resB_bl]
    unfold lwR
    rw [GH.if_t ec]
    rfl
  · have ec : dB (dChain vLt vLe (dC (.int 300)) (dVar 4) (dC (.int 20000))) [some s, some (.ref 1), some (kv n ls), some (.int (T : Nat)), some (.int (N : Nat)), none] [.tbl LW, o] = .ok false [.tbl LW, o] := by
      rw [e_b, e_chain, e_c, Res.bind_ok, dv rfl, Res.bind_ok, vLt_int, Res.bind_ok]
      by_cases c2 : 300 < N
      · rw [decide_eq_true (by omega)]
        dsimp only
        rw [e_c, Res.bind_ok, vLe_int, decide_eq_false (by omega), resB_bl]
      · rw [decide_eq_false (by omega)]
        dsimp only
        rw [resB_bl]
    unfold lwR
    rw [GH.if_f ec, e_seq]
    by_cases c2 : 20000 < N
    · have ex := as_ex kk hw en hT (by rw [hN]; exact c2) (k := k + 68) (h := [.tbl LW, o])
      have eb : (sSeq (sAsg (dCall (lev D (k + 70) 3) (dCons (dVar 2) (dCons (dVar 3) dNil))) (gName 5)) sNext) [some s, some (.ref 1), some (kv n ls), some (.int (T : Nat)), some (.int (N : Nat)), none] [.tbl LW, o] = .exc ⟨TL, []⟩ [some s, some (.ref 1), some (kv n ls), some (.int (T : Nat)), some (.int (N : Nat)), none] [.tbl LW, o] := by
        refine GH.asg_ex ?_
        rw [e_call, e_cons, dv rfl, Res.bind_ok, e_cons, dv rfl, Res.bind_ok, e_nil, Res.bind_ok, Res.bind_ok, Res.bind_ok]
        exact ex
      have er : (sSeq (sRet (dBin vGt (dVar 4) (dC (.int 20000)))) sNext) [some s, some (.ref 1), some (kv n ls), some (.int (T : Nat)), some (.int (N : Nat)), none] [.tbl LW, o] = .rt (.bl true) [.tbl LW, o] := by
        refine GH.ret_eq ?_
        rw [e_bin, dv rfl, Res.bind_ok, e_c, Res.bind_ok, vGt_int, decide_eq_true (by omega)]
      unfold sTry
      rw [eb]
      show (SRes.noExc _).andThen _ = _
      rw [er]
      rfl
    · have eq := as_eq kk hw en hT (by rw [hN]; omega) (k := k + 68) (h := [.tbl LW, o])
      have eb : (sSeq (sAsg (dCall (lev D (k + 70) 3) (dCons (dVar 2) (dCons (dVar 3) dNil))) (gName 5)) sNext) [some s, some (.ref 1), some (kv n ls), some (.int (T : Nat)), some (.int (N : Nat)), none] [.tbl LW, o] = .nx [some s, some (.ref 1), some (kv n ls), some (.int (T : Nat)), some (.int (N : Nat)), some (sv (srtS (sl w ls T)))] [.tbl LW, o] := by
        rw [set_to (l1 := [some s, some (.ref 1), some (kv n ls), some (.int (T : Nat)), some (.int (N : Nat)), some (sv (srtS (sl w ls T)))]) (GH.callS (dv rfl) (dv rfl) eq) rfl, e_next]
      unfold sTry
      rw [eb]
      show sSeq _ _ _ _ = _
      refine GH.ret_eq ?_
      rw [e_andv, e_bin, dv rfl, Res.bind_ok, e_c, Res.bind_ok, vLe_int, decide_eq_true (by omega), Res.bind_ok]
      dsimp only
      have el := la_eq kk hw en hT (by rw [hN]; omega) (k := k + 68 - T) (h := [.tbl LW, o]) rfl
      rw [show k + 68 - T + T + 2 = k + 70 by omega] at el
      have ln := sl_len hw ls T T (Nat.le_refl T)
      have pl := pl_sv (L := srtS (sl w ls T)) (d := T) (by rw [srtS_len, ln]; omega) fun s hs => by rw [(all s (srtS_mem.mp hs)).2]; exact Nat.le_refl T
      have sm := eq_of (same_refl (T + 2) _ pl (k := k + 70 - 2 * (T + 2) - 2) (h := [.tbl LW, o]) (P := fun v h' => v = .bl true ∧ h' = [.tbl LW, o]) ⟨rfl, rfl⟩)
      rw [show k + 70 - 2 * (T + 2) - 2 + 2 * (T + 2) + 2 = k + 70 by omega] at sm
      exact GH.callS (dv rfl) (GH.callS (dv rfl) (dv rfl) el) sm
end
theorem lw_last {n : Int} {ls : List Tx} {T k : Nat} {o : Ob} (kk : KOk n ls) (hT : T ≤ 30) (s : Val) : sSeq (sAsg (dCall (lev D (k + 70) 12) (dCons (dVar 2) (dCons (dVar 3) dNil))) (gName 4)) (lwR (lev D (k + 70))) [some s, some (.ref 1), some (kv n ls), some (.int (T : Nat)), none, none] [.tbl LW, o] = .rt (.bl true) [.tbl LW, o] := by
  refine Exists.elim kk.ways fun w q => ?_
  have ln := ln_eq kk q.1 q.2 hT (k := k + 69) (h := [.tbl LW, o])
  have e1 : dCall (lev D (k + 70) 12) (dCons (dVar 2) (dCons (dVar 3) dNil)) [some s, some (.ref 1), some (kv n ls), some (.int (T : Nat)), none, none] [.tbl LW, o] = .ok (.int (num w ls.length T : Nat)) [.tbl LW, o] := GH.callS (dv rfl) (dv rfl) ln
  rw [set_to (l1 := [some s, some (.ref 1), some (kv n ls), some (.int (T : Nat)), some (.int (num w ls.length T : Nat)), none]) e1 rfl, lw_rest kk q.1 q.2 hT s]
theorem law_st (k : Nat) (ns : List Int) (s : Val) (hs : s = .fz (ns.map .int) ∨ s = .lst (ns.map .int)) : ok (d_law (lev D (k + 70)) [s] [.tbl LW]) fun v _ => v = .bl true := by
  unfold d_law
  rw [ok_run]
  show sok (b_law (lev D (k + 70)) [some s, none, none, none, none, none] [.tbl LW]) _
  unfold b_law
  refine asgo_ (fun v h1 => ∃ o, TapeOb o ∧ v = .ref 1 ∧ h1 = [.tbl LW, o]) ?_ ?_
  · intro Q' hQ
    rw [e_call, show (dCons (dVar 0) dNil) [some s, none, none, none, none, none] [Ob.tbl LW] = .ok [s] [.tbl LW] from rfl, Res.bind_ok]
    exact tape_s hs fun o ho => hQ _ _ ⟨o, ho, rfl, rfl⟩
  rintro v h1 ⟨o, ho, rfl, rfl⟩
  refine asgo_ (fun v h1 => ∃ n ls o, KOk n ls ∧ TapeOb o ∧ v = kv n ls ∧ h1 = [.tbl LW, o]) ?_ ?_
  · intro Q' hQ
    rw [e_call, show (dCons (dVar 1) dNil) ([some s, none, none, none, none, none].set 1 (some (.ref 1))) [Ob.tbl LW, o] = .ok [.ref 1] [.tbl LW, o] from rfl, Res.bind_ok]
    exact kind_sp (k := k + 68) ho fun n ls o' kk ho' => hQ _ _ ⟨n, ls, o', kk, ho', rfl, rfl⟩
  rintro v h1 ⟨n, ls, o, kk, ho, rfl, rfl⟩
  refine asgo_ (fun v h1 => ∃ (T : Nat) (o : Ob), T ≤ 30 ∧ TapeOb o ∧ v = .int (T : Nat) ∧ h1 = [.tbl LW, o]) ?_ ?_
  · intro Q' hQ
    rw [e_call, show (dCons (dVar 1) (dCons (dC (.int 5)) dNil)) (([some s, none, none, none, none, none].set 1 (some (.ref 1))).set 2 (some (kv n ls))) [Ob.tbl LW, o] = .ok [.ref 1, .int 5] [.tbl LW, o] from rfl, Res.bind_ok]
    exact take_l (k := k + 69) ho (by omega) (by omega) fun r o' h0 h1 ho' => hQ _ _ ⟨r.toNat, o', by omega, ho', by rw [Int.toNat_of_nonneg h0], rfl⟩
  rintro v h1 ⟨T, o, hT, ho, rfl, rfl⟩
  refine sok_seqo (fun l h1 => ∃ (T : Nat) (o : Ob), T ≤ 30 ∧ TapeOb o ∧ l = [some s, some (.ref 1), some (kv n ls), some (.int (T : Nat)), none, none] ∧ h1 = [.tbl LW, o]) ?_ ?_
  · intro R' hR
    show sok (sIf _ _ _ [some s, some (.ref 1), some (kv n ls), some (.int (T : Nat)), none, none] [.tbl LW, o]) _
    refine sifk_ ?_
    rw [e_b, e_bin, e_call, show (dCons (dVar 1) (dCons (dC (.int 3)) dNil)) [some s, some (.ref 1), some (kv n ls), some (.int (T : Nat)), none, none] [Ob.tbl LW, o] = .ok [.ref 1, .int 3] [.tbl LW, o] from rfl, Res.bind_ok]
    refine ok_resB ?_
    rw [ok_bind]
    refine take_l (k := k + 69) ho (by omega) (by omega) fun r o' h0 h1 ho' => ?_
    rw [e_c, Res.bind_ok, vEq_int, ok_ok]
    refine ⟨_, rfl, fun _ => ?_, fun _ => ?_⟩
    · refine asgo_ (fun v h1 => ∃ (T : Nat) (o : Ob), T ≤ 30 ∧ TapeOb o ∧ v = .int (T : Nat) ∧ h1 = [.tbl LW, o]) ?_ ?_
      · intro Q' hQ
        rw [e_call, show (dCons (dVar 1) (dCons (dC (.int 31)) dNil)) [some s, some (.ref 1), some (kv n ls), some (.int (T : Nat)), none, none] [Ob.tbl LW, o'] = .ok [.ref 1, .int 31] [.tbl LW, o'] from rfl, Res.bind_ok]
        exact take_l (k := k + 69) ho' (by omega) (by omega) fun r o' h0 h1 ho' => hQ _ _ ⟨r.toNat, o', by omega, ho', by rw [Int.toNat_of_nonneg h0], rfl⟩
      rintro v h1 ⟨T2, o2, hT2, ho2, rfl, rfl⟩
      rw [e_next, sok_nx]
      exact hR _ _ ⟨T2, o2, hT2, ho2, rfl, rfl⟩
    · rw [e_next, sok_nx]
      exact hR _ _ ⟨T, o', hT, ho', rfl, rfl⟩
  rintro l h1 ⟨T, o, hT, ho, rfl, rfl⟩
  rw [lw_last kk hT s, sok_rt]
theorem law_true (ns : List Int) (hn : ns.length ≤ 63) (s : Val) (hs : s = .fz (ns.map .int) ∨ s = .lst (ns.map .int)) : ∃ h', lev D 100 13 [s] [.tbl LW] = .ok (.bl true) h' := by
  obtain ⟨k, hk⟩ : ∃ k, 100 = (k + 70) + 1 := ⟨29, rfl⟩
  rw [hk, lev_s]
  show ∃ h', d_law (lev D (k + 70)) [s] [.tbl LW] = _
  obtain ⟨v, h', e, rfl⟩ := ok_eq (law_st k ns s hs)
  exact ⟨h', e⟩
end L02
set_option Elab.async false
set_option linter.all false
set_option maxRecDepth 100000
set_option maxHeartbeats 0
namespace L02
open PySem PySem.Spec PyProof.Rows L2 GH

def fn0 : List He.DefD := ([⟨("check_kind", none), "check_kind", "check_kind", defArgs (top 7), defBody (top 7), defScope (top 7), [], []⟩, ⟨("write_shape", none), "write_shape", "write_shape", defArgs (top 8), defBody (top 8), defScope (top 8), [], []⟩, ⟨("shape_counts", none), "shape_counts", "shape_counts", defArgs (top 9), defBody (top 9), defScope (top 9), [], []⟩, ⟨("all_shapes", none), "all_shapes", "all_shapes", defArgs (top 10), defBody (top 10), defScope (top 10), [], []⟩, ⟨("_law_tape", none), "_law_tape", "_law_tape", defArgs (top 12), defBody (top 12), defScope (top 12), [], []⟩, ⟨("_law_take", none), "_law_take", "_law_take", defArgs (top 13), defBody (top 13), defScope (top 13), [], []⟩, ⟨("_law_is_integer", none), "_law_is_integer", "_law_is_integer", defArgs (top 14), defBody (top 14), defScope (top 14), [], []⟩, ⟨("_law_same_items", none), "_law_same_items", "_law_same_items", defArgs (top 15), defBody (top 15), defScope (top 15), [], []⟩, ⟨("_law_same", none), "_law_same", "_law_same", defArgs (top 16), defBody (top 16), defScope (top 16), [], []⟩, ⟨("_law_kind", none), "_law_kind", "_law_kind", defArgs (top 17), defBody (top 17), defScope (top 17), [], []⟩, ⟨("_law_text", none), "_law_text", "_law_text", defArgs (top 18), defBody (top 18), defScope (top 18), [], []⟩, ⟨("_law_all", none), "_law_all", "_law_all", defArgs (top 19), defBody (top 19), defScope (top 19), [], []⟩, ⟨("_law_number", none), "_law_number", "_law_number", defArgs (top 20), defBody (top 20), defScope (top 20), [], []⟩, ⟨("law", none), "law", "law", defArgs (top 21), defBody (top 21), defScope (top 21), [], []⟩])
def fn : List He.DefD := fn0
def fa0 : List He.Fa := ([.glo "check_kind", .glo "write_shape", .glo "shape_counts", .glo "all_shapes", .glo "_law_tape", .glo "_law_take", .glo "_law_is_integer", .glo "_law_same_items", .glo "_law_same", .glo "_law_kind", .glo "_law_text", .glo "_law_all", .glo "_law_number", .glo "law", .free "abs", .free "all", .free "bool", .free "dict", .free "int", .free "isinstance", .free "len", .free "list", .free "range", .free "set", .free "sorted", .free "str", .free "sum", .free "tuple", .int "MOST_SHAPES" 20000, .str "LETTERS" (sOf [97, 98, 99, 100, 101, 102, 103, 104, 105, 106, 107, 108, 109, 110, 111, 112, 113, 114, 115, 116, 117, 118, 119, 120, 121, 122])])
def fa1 : List He.Fa := ([.exc (sOf [83, 97, 121, 69, 114, 114, 111, 114]), .glo (sOf [83, 97, 121, 69, 114, 114, 111, 114]), .exc (sOf [73, 110, 118, 97, 108, 105, 100, 75, 105, 110, 100]), .glo (sOf [73, 110, 118, 97, 108, 105, 100, 75, 105, 110, 100]), .exc (sOf [84, 111, 111, 76, 97, 114, 103, 101]), .glo (sOf [84, 111, 111, 76, 97, 114, 103, 101]), .exm (sOf [83, 97, 121, 69, 114, 114, 111, 114]) (sOf [84, 111, 111, 76, 97, 114, 103, 101]) false, .exm (sOf [73, 110, 118, 97, 108, 105, 100, 75, 105, 110, 100]) (sOf [84, 111, 111, 76, 97, 114, 103, 101]) false, .exm (sOf [84, 111, 111, 76, 97, 114, 103, 101]) (sOf [84, 111, 111, 76, 97, 114, 103, 101]) true])
def fa : List He.Fa := fa0 ++ fa1
def nm0 : List PySem.Str := ([("SayError" : PySem.Str), ("InvalidKind" : PySem.Str), ("TooLarge" : PySem.Str), ("LETTERS" : PySem.Str), ("MOST_SHAPES" : PySem.Str), ("check_kind" : PySem.Str), ("write_shape" : PySem.Str), ("shape_counts" : PySem.Str), ("all_shapes" : PySem.Str), ("_law_tape" : PySem.Str), ("_law_take" : PySem.Str), ("_law_is_integer" : PySem.Str), ("_law_same_items" : PySem.Str), ("_law_same" : PySem.Str), ("_law_kind" : PySem.Str), ("_law_text" : PySem.Str), ("_law_all" : PySem.Str), ("_law_number" : PySem.Str)])
def nm : List PySem.Str := nm0
def ex (K : PySem.W.Frag) : Bool := [].all id
theorem ex_at {K : PySem.W.Frag} (c : ex K = true) (i : Nat) {b : Bool} (h : [][i]? = some b := by rfl) : b = true := List.all_eq_true.mp c b (List.mem_of_getElem? h)
abbrev R : PySem.W.OpenRow := PySem.W.OpenLaw.row PySem.Challenge.rw_grovehouse_k02_all_shapes_of_a_size
abbrev hk : PySem.W.Hook := He.hookX 4 fa fn [] ([[95, 108, 97, 119, 95, 97, 108, 108]].map fun q => (sOf q, none)) ex
def ob (s : PySem.W.SharedT) : He.AlX := He.obsX 4 fa fn [] ([[95, 108, 97, 119, 95, 97, 108, 108]].map fun q => (sOf q, none)) ex (HandSHeadRun.getT s)
theorem ob_eq (s : PySem.W.SharedT) : ob s = hk.obs s.abs := He.obsX_eq (HandSHeadRun.getT_eq s)
theorem run (w : World) : HandSHeadRun.RunEq R (PySem.W.view R.prog [21]) hk ob 3000 nm w := by
  intro os
  kernel_rfl
theorem u_check_kind {K : PySem.W.Frag} (c : He.SaysD fa fn K) : ∃ fd, FnP K "check_kind" 7 fd ∧ Binds K fd ["kind"] [] := by
  obtain ⟨fd, F⟩ := c.def_ 0 (d := ⟨("check_kind", none), "check_kind", "check_kind", defArgs (top 7), defBody (top 7), defScope (top 7), [], []⟩) rfl
  exact ⟨fd, F, FunD.bindsN (ps := ["kind"]) F fun _ _ _ _ _ _ us hl => match us, hl with | [_], _ => rfl⟩
theorem u_write_shape {K : PySem.W.Frag} (c : He.SaysD fa fn K) : ∃ fd, FnP K "write_shape" 8 fd ∧ Binds K fd ["shape"] [] := by
  obtain ⟨fd, F⟩ := c.def_ 1 (d := ⟨("write_shape", none), "write_shape", "write_shape", defArgs (top 8), defBody (top 8), defScope (top 8), [], []⟩) rfl
  exact ⟨fd, F, FunD.bindsN (ps := ["shape"]) F fun _ _ _ _ _ _ us hl => match us, hl with | [_], _ => rfl⟩
theorem u_shape_counts {K : PySem.W.Frag} (c : He.SaysD fa fn K) : ∃ fd, FnP K "shape_counts" 9 fd ∧ Binds K fd ["kind", "count"] [] := by
  obtain ⟨fd, F⟩ := c.def_ 2 (d := ⟨("shape_counts", none), "shape_counts", "shape_counts", defArgs (top 9), defBody (top 9), defScope (top 9), [], []⟩) rfl
  exact ⟨fd, F, FunD.bindsN (ps := ["kind", "count"]) F fun _ _ _ _ _ _ us hl => match us, hl with | [_, _], _ => rfl⟩
theorem u_all_shapes {K : PySem.W.Frag} (c : He.SaysD fa fn K) : ∃ fd, FnP K "all_shapes" 10 fd ∧ Binds K fd ["kind", "count"] [] := by
  obtain ⟨fd, F⟩ := c.def_ 3 (d := ⟨("all_shapes", none), "all_shapes", "all_shapes", defArgs (top 10), defBody (top 10), defScope (top 10), [], []⟩) rfl
  exact ⟨fd, F, FunD.bindsN (ps := ["kind", "count"]) F fun _ _ _ _ _ _ us hl => match us, hl with | [_, _], _ => rfl⟩
theorem u__law_tape {K : PySem.W.Frag} (c : He.SaysD fa fn K) : ∃ fd, FnP K "_law_tape" 12 fd ∧ Binds K fd ["script"] [] := by
  obtain ⟨fd, F⟩ := c.def_ 4 (d := ⟨("_law_tape", none), "_law_tape", "_law_tape", defArgs (top 12), defBody (top 12), defScope (top 12), [], []⟩) rfl
  exact ⟨fd, F, FunD.bindsN (ps := ["script"]) F fun _ _ _ _ _ _ us hl => match us, hl with | [_], _ => rfl⟩
theorem u__law_take {K : PySem.W.Frag} (c : He.SaysD fa fn K) : ∃ fd, FnP K "_law_take" 13 fd ∧ Binds K fd ["tape", "many"] [] := by
  obtain ⟨fd, F⟩ := c.def_ 5 (d := ⟨("_law_take", none), "_law_take", "_law_take", defArgs (top 13), defBody (top 13), defScope (top 13), [], []⟩) rfl
  exact ⟨fd, F, FunD.bindsN (ps := ["tape", "many"]) F fun _ _ _ _ _ _ us hl => match us, hl with | [_, _], _ => rfl⟩
theorem u__law_is_integer {K : PySem.W.Frag} (c : He.SaysD fa fn K) : ∃ fd, FnP K "_law_is_integer" 14 fd ∧ Binds K fd ["actual"] [] := by
  obtain ⟨fd, F⟩ := c.def_ 6 (d := ⟨("_law_is_integer", none), "_law_is_integer", "_law_is_integer", defArgs (top 14), defBody (top 14), defScope (top 14), [], []⟩) rfl
  exact ⟨fd, F, FunD.bindsN (ps := ["actual"]) F fun _ _ _ _ _ _ us hl => match us, hl with | [_], _ => rfl⟩
theorem u__law_same_items {K : PySem.W.Frag} (c : He.SaysD fa fn K) : ∃ fd, FnP K "_law_same_items" 15 fd ∧ Binds K fd ["actual", "expected"] [] := by
  obtain ⟨fd, F⟩ := c.def_ 7 (d := ⟨("_law_same_items", none), "_law_same_items", "_law_same_items", defArgs (top 15), defBody (top 15), defScope (top 15), [], []⟩) rfl
  exact ⟨fd, F, FunD.bindsN (ps := ["actual", "expected"]) F fun _ _ _ _ _ _ us hl => match us, hl with | [_, _], _ => rfl⟩
theorem u__law_same {K : PySem.W.Frag} (c : He.SaysD fa fn K) : ∃ fd, FnP K "_law_same" 16 fd ∧ Binds K fd ["actual", "expected"] [] := by
  obtain ⟨fd, F⟩ := c.def_ 8 (d := ⟨("_law_same", none), "_law_same", "_law_same", defArgs (top 16), defBody (top 16), defScope (top 16), [], []⟩) rfl
  exact ⟨fd, F, FunD.bindsN (ps := ["actual", "expected"]) F fun _ _ _ _ _ _ us hl => match us, hl with | [_, _], _ => rfl⟩
theorem u__law_kind {K : PySem.W.Frag} (c : He.SaysD fa fn K) : ∃ fd, FnP K "_law_kind" 17 fd ∧ Binds K fd ["tape"] [] := by
  obtain ⟨fd, F⟩ := c.def_ 9 (d := ⟨("_law_kind", none), "_law_kind", "_law_kind", defArgs (top 17), defBody (top 17), defScope (top 17), [], []⟩) rfl
  exact ⟨fd, F, FunD.bindsN (ps := ["tape"]) F fun _ _ _ _ _ _ us hl => match us, hl with | [_], _ => rfl⟩
theorem u__law_text {K : PySem.W.Frag} (c : He.SaysD fa fn K) : ∃ fd, FnP K "_law_text" 18 fd ∧ Binds K fd ["shape"] [] := by
  obtain ⟨fd, F⟩ := c.def_ 10 (d := ⟨("_law_text", none), "_law_text", "_law_text", defArgs (top 18), defBody (top 18), defScope (top 18), [], []⟩) rfl
  exact ⟨fd, F, FunD.bindsN (ps := ["shape"]) F fun _ _ _ _ _ _ us hl => match us, hl with | [_], _ => rfl⟩
theorem u__law_all {K : PySem.W.Frag} (c : He.SaysD fa fn K) : ∃ fd, FnP K "_law_all" 19 fd ∧ Binds K fd ["kind", "count"] [] := by
  obtain ⟨fd, F⟩ := c.def_ 11 (d := ⟨("_law_all", none), "_law_all", "_law_all", defArgs (top 19), defBody (top 19), defScope (top 19), [], []⟩) rfl
  exact ⟨fd, F, FunD.bindsN (ps := ["kind", "count"]) F fun _ _ _ _ _ _ us hl => match us, hl with | [_, _], _ => rfl⟩
theorem u__law_number {K : PySem.W.Frag} (c : He.SaysD fa fn K) : ∃ fd, FnP K "_law_number" 20 fd ∧ Binds K fd ["kind", "count"] [] := by
  obtain ⟨fd, F⟩ := c.def_ 12 (d := ⟨("_law_number", none), "_law_number", "_law_number", defArgs (top 20), defBody (top 20), defScope (top 20), [], []⟩) rfl
  exact ⟨fd, F, FunD.bindsN (ps := ["kind", "count"]) F fun _ _ _ _ _ _ us hl => match us, hl with | [_, _], _ => rfl⟩
theorem u_law {K : PySem.W.Frag} (c : He.SaysD fa fn K) : ∃ fd, FnP K "law" 21 fd ∧ Binds K fd ["script"] [] := by
  obtain ⟨fd, F⟩ := c.def_ 13 (d := ⟨("law", none), "law", "law", defArgs (top 21), defBody (top 21), defScope (top 21), [], []⟩) rfl
  exact ⟨fd, F, FunD.bindsN (ps := ["script"]) F fun _ _ _ _ _ _ us hl => match us, hl with | [_], _ => rfl⟩
variable [TheWorld]
theorem fc_of {K : PySem.W.Frag} {mg : Str → Option Value} {base : Heap} (X : K.In base) (G : base.Ns mainGlobals mg) (c : He.SaysD fa fn K) (c2 : ex K = true) : Fc K mg := ⟨He.free_ok X G (c.fact 14 (f := .free "abs") rfl),
  He.free_ok X G (c.fact 15 (f := .free "all") rfl),
  He.free_ok X G (c.fact 16 (f := .free "bool") rfl),
  He.free_ok X G (c.fact 17 (f := .free "dict") rfl),
  He.free_ok X G (c.fact 18 (f := .free "int") rfl),
  He.free_ok X G (c.fact 19 (f := .free "isinstance") rfl),
  He.free_ok X G (c.fact 20 (f := .free "len") rfl),
  He.free_ok X G (c.fact 21 (f := .free "list") rfl),
  He.free_ok X G (c.fact 22 (f := .free "range") rfl),
  He.free_ok X G (c.fact 23 (f := .free "set") rfl),
  He.free_ok X G (c.fact 24 (f := .free "sorted") rfl),
  He.free_ok X G (c.fact 25 (f := .free "str") rfl),
  He.free_ok X G (c.fact 26 (f := .free "sum") rfl),
  He.free_ok X G (c.fact 27 (f := .free "tuple") rfl),
  He.int_ok X G (c.fact 28 (f := .int "MOST_SHAPES" 20000) rfl),
  He.str_ok X G (c.fact 29 (f := .str "LETTERS" (sOf [97, 98, 99, 100, 101, 102, 103, 104, 105, 106, 107, 108, 109, 110, 111, 112, 113, 114, 115, 116, 117, 118, 119, 120, 121, 122])) rfl),
  ⟨(He.exc_ok (c.fact 30 (f := .exc (sOf [83, 97, 121, 69, 114, 114, 111, 114])) rfl)).1, (He.exc_ok (c.fact 30 (f := .exc (sOf [83, 97, 121, 69, 114, 114, 111, 114])) rfl)).2.1, (He.exc_ok (c.fact 30 (f := .exc (sOf [83, 97, 121, 69, 114, 114, 111, 114])) rfl)).2.2.1, (He.exc_ok (c.fact 30 (f := .exc (sOf [83, 97, 121, 69, 114, 114, 111, 114])) rfl)).2.2.2, He.glo_ok X G (c.fact 31 (f := .glo (sOf [83, 97, 121, 69, 114, 114, 111, 114])) rfl)⟩,
  ⟨(He.exc_ok (c.fact 32 (f := .exc (sOf [73, 110, 118, 97, 108, 105, 100, 75, 105, 110, 100])) rfl)).1, (He.exc_ok (c.fact 32 (f := .exc (sOf [73, 110, 118, 97, 108, 105, 100, 75, 105, 110, 100])) rfl)).2.1, (He.exc_ok (c.fact 32 (f := .exc (sOf [73, 110, 118, 97, 108, 105, 100, 75, 105, 110, 100])) rfl)).2.2.1, (He.exc_ok (c.fact 32 (f := .exc (sOf [73, 110, 118, 97, 108, 105, 100, 75, 105, 110, 100])) rfl)).2.2.2, He.glo_ok X G (c.fact 33 (f := .glo (sOf [73, 110, 118, 97, 108, 105, 100, 75, 105, 110, 100])) rfl)⟩,
  ⟨(He.exc_ok (c.fact 34 (f := .exc (sOf [84, 111, 111, 76, 97, 114, 103, 101])) rfl)).1, (He.exc_ok (c.fact 34 (f := .exc (sOf [84, 111, 111, 76, 97, 114, 103, 101])) rfl)).2.1, (He.exc_ok (c.fact 34 (f := .exc (sOf [84, 111, 111, 76, 97, 114, 103, 101])) rfl)).2.2.1, (He.exc_ok (c.fact 34 (f := .exc (sOf [84, 111, 111, 76, 97, 114, 103, 101])) rfl)).2.2.2, He.glo_ok X G (c.fact 35 (f := .glo (sOf [84, 111, 111, 76, 97, 114, 103, 101])) rfl)⟩,
  (by intro p hp; simp only [List.mem_cons, List.not_mem_nil, or_false] at hp; rcases hp with rfl | rfl | rfl; exact He.exm_ok (c.fact 36 (f := .exm (sOf [83, 97, 121, 69, 114, 114, 111, 114]) (sOf [84, 111, 111, 76, 97, 114, 103, 101]) false) rfl); exact He.exm_ok (c.fact 37 (f := .exm (sOf [73, 110, 118, 97, 108, 105, 100, 75, 105, 110, 100]) (sOf [84, 111, 111, 76, 97, 114, 103, 101]) false) rfl); exact He.exm_ok (c.fact 38 (f := .exm (sOf [84, 111, 111, 76, 97, 114, 103, 101]) (sOf [84, 111, 111, 76, 97, 114, 103, 101]) true) rfl))⟩
theorem all_of {P : Program} {w : World} {K : PySem.W.Frag} {mg : Str → Option Value} {base hh : Heap} (X : K.In hh) (G : hh.Ns mainGlobals mg) (c : He.SaysD fa fn K) (c2 : ex K = true) (hwW : w = TheWorld.w) (TB__law_all : LamX.TabB base mg (He.codeOf K (sOf [95, 108, 97, 119, 95, 97, 108, 108], none)) (tabA K [95, 108, 97, 119, 95, 97, 108, 108])) : ∀ k, AllK P w K mg base sig (2 * k) (lev D k) := by
  have fc := fc_of X G c c2
  obtain ⟨fd0, u0, b0⟩ := u_check_kind c
  have g0 := He.glo_ok X G (c.fact 0 (f := .glo "check_kind") rfl)
  obtain ⟨fd1, u1, b1⟩ := u_write_shape c
  have g1 := He.glo_ok X G (c.fact 1 (f := .glo "write_shape") rfl)
  obtain ⟨fd2, u2, b2⟩ := u_shape_counts c
  have g2 := He.glo_ok X G (c.fact 2 (f := .glo "shape_counts") rfl)
  obtain ⟨fd3, u3, b3⟩ := u_all_shapes c
  have g3 := He.glo_ok X G (c.fact 3 (f := .glo "all_shapes") rfl)
  obtain ⟨fd4, u4, b4⟩ := u__law_tape c
  have g4 := He.glo_ok X G (c.fact 4 (f := .glo "_law_tape") rfl)
  obtain ⟨fd5, u5, b5⟩ := u__law_take c
  have g5 := He.glo_ok X G (c.fact 5 (f := .glo "_law_take") rfl)
  obtain ⟨fd6, u6, b6⟩ := u__law_is_integer c
  have g6 := He.glo_ok X G (c.fact 6 (f := .glo "_law_is_integer") rfl)
  obtain ⟨fd7, u7, b7⟩ := u__law_same_items c
  have g7 := He.glo_ok X G (c.fact 7 (f := .glo "_law_same_items") rfl)
  obtain ⟨fd8, u8, b8⟩ := u__law_same c
  have g8 := He.glo_ok X G (c.fact 8 (f := .glo "_law_same") rfl)
  obtain ⟨fd9, u9, b9⟩ := u__law_kind c
  have g9 := He.glo_ok X G (c.fact 9 (f := .glo "_law_kind") rfl)
  obtain ⟨fd10, u10, b10⟩ := u__law_text c
  have g10 := He.glo_ok X G (c.fact 10 (f := .glo "_law_text") rfl)
  obtain ⟨fd11, u11, b11⟩ := u__law_all c
  have g11 := He.glo_ok X G (c.fact 11 (f := .glo "_law_all") rfl)
  obtain ⟨fd12, u12, b12⟩ := u__law_number c
  have g12 := He.glo_ok X G (c.fact 12 (f := .glo "_law_number") rfl)
  obtain ⟨fd13, u13, b13⟩ := u_law c
  have g13 := He.glo_ok X G (c.fact 13 (f := .glo "law") rfl)
  refine levelsC 2 ?_ ?_
  · intro j x ps e
    match j, e with
    | 0, e => exact (by have e : some (("check_kind" : Str), (["kind"] : List Str)) = some (x, ps) := e; cases e; exact ⟨g0, u0.kp, fd0, b0⟩)
    | 1, e => exact (by have e : some (("write_shape" : Str), (["shape"] : List Str)) = some (x, ps) := e; cases e; exact ⟨g1, u1.kp, fd1, b1⟩)
    | 2, e => exact (by have e : some (("shape_counts" : Str), (["kind", "count"] : List Str)) = some (x, ps) := e; cases e; exact ⟨g2, u2.kp, fd2, b2⟩)
    | 3, e => exact (by have e : some (("all_shapes" : Str), (["kind", "count"] : List Str)) = some (x, ps) := e; cases e; exact ⟨g3, u3.kp, fd3, b3⟩)
    | 4, e => exact (by have e : some (("_law_tape" : Str), (["script"] : List Str)) = some (x, ps) := e; cases e; exact ⟨g4, u4.kp, fd4, b4⟩)
    | 5, e => exact (by have e : some (("_law_take" : Str), (["tape", "many"] : List Str)) = some (x, ps) := e; cases e; exact ⟨g5, u5.kp, fd5, b5⟩)
    | 6, e => exact (by have e : some (("_law_is_integer" : Str), (["actual"] : List Str)) = some (x, ps) := e; cases e; exact ⟨g6, u6.kp, fd6, b6⟩)
    | 7, e => exact (by have e : some (("_law_same_items" : Str), (["actual", "expected"] : List Str)) = some (x, ps) := e; cases e; exact ⟨g7, u7.kp, fd7, b7⟩)
    | 8, e => exact (by have e : some (("_law_same" : Str), (["actual", "expected"] : List Str)) = some (x, ps) := e; cases e; exact ⟨g8, u8.kp, fd8, b8⟩)
    | 9, e => exact (by have e : some (("_law_kind" : Str), (["tape"] : List Str)) = some (x, ps) := e; cases e; exact ⟨g9, u9.kp, fd9, b9⟩)
    | 10, e => exact (by have e : some (("_law_text" : Str), (["shape"] : List Str)) = some (x, ps) := e; cases e; exact ⟨g10, u10.kp, fd10, b10⟩)
    | 11, e => exact (by have e : some (("_law_all" : Str), (["kind", "count"] : List Str)) = some (x, ps) := e; cases e; exact ⟨g11, u11.kp, fd11, b11⟩)
    | 12, e => exact (by have e : some (("_law_number" : Str), (["kind", "count"] : List Str)) = some (x, ps) := e; cases e; exact ⟨g12, u12.kp, fd12, b12⟩)
    | 13, e => exact (by have e : some (("law" : Str), (["script"] : List Str)) = some (x, ps) := e; cases e; exact ⟨g13, u13.kp, fd13, b13⟩)
    | n + 14, e => exact (by have e : (none : Option (Str × List Str)) = some (x, ps) := e; cases e)
  · intro k Γ F j x ps e
    match j, e with
    | 0, e => exact (by have e : some (("check_kind" : Str), (["kind"] : List Str)) = some (x, ps) := e; cases e; exact ⟨⟨fd0, (k_check_kind F hwW fc u0).mono (by omega), b0⟩, g0, u0.kp⟩)
    | 1, e => exact (by have e : some (("write_shape" : Str), (["shape"] : List Str)) = some (x, ps) := e; cases e; exact ⟨⟨fd1, (k_write_shape F hwW fc u1).mono (by omega), b1⟩, g1, u1.kp⟩)
    | 2, e => exact (by have e : some (("shape_counts" : Str), (["kind", "count"] : List Str)) = some (x, ps) := e; cases e; exact ⟨⟨fd2, (k_shape_counts F hwW fc u2).mono (by omega), b2⟩, g2, u2.kp⟩)
    | 3, e => exact (by have e : some (("all_shapes" : Str), (["kind", "count"] : List Str)) = some (x, ps) := e; cases e; exact ⟨⟨fd3, (k_all_shapes F hwW fc u3).mono (by omega), b3⟩, g3, u3.kp⟩)
    | 4, e => exact (by have e : some (("_law_tape" : Str), (["script"] : List Str)) = some (x, ps) := e; cases e; exact ⟨⟨fd4, (k__law_tape F hwW fc u4).mono (by omega), b4⟩, g4, u4.kp⟩)
    | 5, e => exact (by have e : some (("_law_take" : Str), (["tape", "many"] : List Str)) = some (x, ps) := e; cases e; exact ⟨⟨fd5, (k__law_take F hwW fc u5).mono (by omega), b5⟩, g5, u5.kp⟩)
    | 6, e => exact (by have e : some (("_law_is_integer" : Str), (["actual"] : List Str)) = some (x, ps) := e; cases e; exact ⟨⟨fd6, (k__law_is_integer F hwW fc u6).mono (by omega), b6⟩, g6, u6.kp⟩)
    | 7, e => exact (by have e : some (("_law_same_items" : Str), (["actual", "expected"] : List Str)) = some (x, ps) := e; cases e; exact ⟨⟨fd7, (k__law_same_items F hwW fc u7).mono (by omega), b7⟩, g7, u7.kp⟩)
    | 8, e => exact (by have e : some (("_law_same" : Str), (["actual", "expected"] : List Str)) = some (x, ps) := e; cases e; exact ⟨⟨fd8, (k__law_same F hwW fc u8).mono (by omega), b8⟩, g8, u8.kp⟩)
    | 9, e => exact (by have e : some (("_law_kind" : Str), (["tape"] : List Str)) = some (x, ps) := e; cases e; exact ⟨⟨fd9, (k__law_kind F hwW fc u9).mono (by omega), b9⟩, g9, u9.kp⟩)
    | 10, e => exact (by have e : some (("_law_text" : Str), (["shape"] : List Str)) = some (x, ps) := e; cases e; exact ⟨⟨fd10, (k__law_text F hwW fc u10).mono (by omega), b10⟩, g10, u10.kp⟩)
    | 11, e => exact (by have e : some (("_law_all" : Str), (["kind", "count"] : List Str)) = some (x, ps) := e; cases e; exact ⟨⟨fd11, (k__law_all F hwW fc TB__law_all u11).mono (by omega), b11⟩, g11, u11.kp⟩)
    | 12, e => exact (by have e : some (("_law_number" : Str), (["kind", "count"] : List Str)) = some (x, ps) := e; cases e; exact ⟨⟨fd12, (k__law_number F hwW fc u12).mono (by omega), b12⟩, g12, u12.kp⟩)
    | 13, e => exact (by have e : some (("law" : Str), (["script"] : List Str)) = some (x, ps) := e; cases e; exact ⟨⟨fd13, (k_law F hwW fc u13).mono (by omega), b13⟩, g13, u13.kp⟩)
    | n + 14, e => exact (by have e : (none : Option (Str × List Str)) = some (x, ps) := e; cases e)
theorem facts {P : Program} {w : World} {K : PySem.W.Frag} {h : Heap} {mg : Str → Option Value} {f : Addr} (X : K.In h) (G : h.Ns mainGlobals mg) (hfa : mg ("law" : Str) = some (.ref f)) (c : He.SaysD fa fn K) (c2 : ex K = true) (hwW : w = TheWorld.w) :
    ∃ fd : FuncData, (∀ (s : Shared) (v : Value), BindsTo s fd ⟨[v], []⟩ [("script", v)]) ∧ ∀ base : Heap, K.In base → base.Ns mainGlobals mg → (∀ q ∈ ([[95, 108, 97, 119, 95, 97, 108, 108]] : List (List Nat)), LamX.TabB base mg (He.codeOf K (sOf q, none)) (tabA K q)) → FnOk P w K mg base (CXA P) 199 f fd ["script"] (spG K (lev D 100 13) 1) := by
  obtain ⟨fd, F, b⟩ := u_law c
  have g := He.glo_ok X G (c.fact 13 (f := .glo "law") rfl)
  have e := hfa.symm.trans g
  cases e
  have b' := FunD.bindsA (ps := ["script"]) F fun _ _ _ _ _ _ us hl => match us, hl with | [_], _ => rfl
  refine ⟨fd, fun s v => b' s [v] rfl, fun base X2 G2 hTB => ?_⟩
  exact fn_cxa (k_law (all_of X2 G2 c c2 hwW (hTB [95, 108, 97, 119, 95, 97, 108, 108] (by simp)) 99) hwW (fc_of X2 G2 c c2) F)
end L02
open PySem PySem.W PySem.Calls PyProof.Rows
theorem PySem.Challenge.cw_grovehouse_k02_all_shapes_of_a_size_holds : PySem.Challenge.rw_grovehouse_k02_all_shapes_of_a_size.Holds := by
  w_on; o_law
  refine HandSHeadRun.head_any (r := OpenLaw.row PySem.Challenge.rw_grovehouse_k02_all_shapes_of_a_size) (q := view (OpenLaw.row PySem.Challenge.rw_grovehouse_k02_all_shapes_of_a_size).prog [21]) (H := L02.hk) (ob := L02.ob) (M := 3000) (loose := L02.nm) (d := HandSHeadRun.topDef (OpenLaw.row PySem.Challenge.rw_grovehouse_k02_all_shapes_of_a_size).prog 21) (kwd := []) L02.ob_eq
    (by kernel_rfl) (fun s => by kernel_rfl) L02.run (by kernel_rfl) (by kernel_rfl) (by kernel_rfl) (by rfl) (by first | assumption | decide +kernel) (by decide +kernel) ⟨rfl, rfl, rfl, rfl, rfl, by decide +kernel⟩ ?hw ?hc
  case hw => w_witness2
  case hc =>
    refine LamX.walk_ofTsE (l := PySem.Challenge.rw_grovehouse_k02_all_shapes_of_a_size) (n := 63) (k := 199) (x := "script") (CX := fun _ => GH.CXA (PySem.Challenge.rw_grovehouse_k02_all_shapes_of_a_size).prog) rfl (by decide) (by kernel_rfl) ⟨rfl, by decide, by decide⟩ ?F (fun _ H s e s' z => Exists.elim z fun w _ => @GH.cxa_none ⟨w⟩ _ H s e s' z)
    intro w mg fa h Y G hmg0
    letI : GH.TheWorld := ⟨w⟩
    obtain ⟨K, KX, c⟩ := Y
    have hmg : mg ("law" : PySem.Str) = some (.ref fa) := by
      have e : (HandSHeadRun.topDef (OpenLaw.row PySem.Challenge.rw_grovehouse_k02_all_shapes_of_a_size).prog 21).name = ("law" : PySem.Str) := by kernel_rfl
      rw [← e]
      exact hmg0
    obtain ⟨fd, hb, hF⟩ := L02.facts (P := (PySem.Challenge.rw_grovehouse_k02_all_shapes_of_a_size).prog) (w := w) KX G hmg c.t.d c.more rfl
    have mem : ∀ q ∈ ([[95, 108, 97, 119, 95, 97, 108, 108]] : List (List Nat)), (GH.sOf q, none) ∈ ([[95, 108, 97, 119, 95, 97, 108, 108]].map fun q => (GH.sOf q, none) : List He.Defn) := fun q hq => List.mem_map.mpr ⟨q, hq, rfl⟩
    refine ⟨K, KX, fd, ([[95, 108, 97, 119, 95, 97, 108, 108]] : List (List Nat)).map fun q => He.cT K (GH.sOf q, none), _, fun p hp => by obtain ⟨q, hq, rfl⟩ := List.mem_map.mp hp; exact c.empty _ (mem q hq), fun p hp => by obtain ⟨q, hq, rfl⟩ := List.mem_map.mp hp; exact c.out _ (mem q hq), fun p hp => by obtain ⟨q, hq, rfl⟩ := List.mem_map.mp hp; exact codeHd_of_K KX (c.hd _ (mem q hq)), hb, fun H a ns hl _ hT hS => ?_, fun base X2 G2 TB => hF base X2 G2 fun q hq => TB _ (List.mem_map.mpr ⟨q, hq, rfl⟩)⟩
    exact GH.sp_lawT (nms := [[95, 108, 97, 119, 95, 97, 108, 108]]) (by simp) (fun q hq => hT _ (List.mem_map.mpr ⟨q, hq, rfl⟩)) hS (L02.law_true ns hl)
